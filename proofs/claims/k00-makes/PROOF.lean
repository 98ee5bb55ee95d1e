import PyProof.Rows.All
import Wide.All
import OpenK.AllK
import Wide.FinOn
import PySem.Syntax
import PyProof.ReprReads
import HandS.ForMost
import HandS.Exc
import HandS.ExcInit
import HandS.TryMany
import HandS.Lambda
import HandS.Deep
import HandS.Zip
import HandS.TupAny
import HandS.TupMul
import HandS.Style
import HandS.TupLe
import HandS.IsInst
import HandS.Strs
import HandS.CallLocal
import HandS.SortInts
import HandS.Conv
import KE.SortData
import KE.GoesEnum
import HandS.ExcField
import PyProof.ReprRoads
import PyProof.ListRange
import PyProof.RangeFor
import HandS.Set
import HandS.SetFor
import HandS.HeadWalk
import HandS.EndTab
import HandS.Defaults
import HandS.HeadHook1
import HandS.HeadHook2
import HandS.HeadHook3
import HandS.HeadHook4
import KE.KStateDown
import Lean
import HandS.Head0
import HandS.Head1
import HandS.Head2
import HandS.HeadEnd
import PySem.Challenge.RW_lockwise_k00_makes
section
set_option autoImplicit false
/-! # Mini: a small language over plain data, and its evaluator
Own work for the lockwise proofs: programs of the row are turned into this language (see MiniConv), the evaluator is total and
knows no heap. -/
namespace Mini
open PySem (Str)

/-! ### data -/
/-- what a name can stand for, told by content -/
inductive D where
  | non | bl (b : Bool) | int (i : Int) | str (s : Str)
  | lst (l : List D) | tup (l : List D)
  /-- the law's script: ints -/
  | scr (l : List Int)
  /-- a def of the text -/
  | fn (f : Nat)
  /-- an instance of class c that stays as it is: its fields in order -/
  | ins (c : Nat) (fs : List D)
  /-- a thing that is changed: the k-th of the store -/
  | ptr (k : Nat)
  /-- a dict that stays as it is -/
  | dic (ks vs : List D)
  deriving Inhabited

/-- a thing of the store -/
inductive SO where
  | lst (l : List D)
  | ins (c : Nat) (fs : List D)
  deriving Inhabited
abbrev Store := List SO

/-- a name's place -/
inductive Slot where
  | no
  | val (d : D)
  /-- a list that no one else holds -/
  | own (l : List D)
  /-- an instance in the making -/
  | ownI (c : Nat) (fs : List D)
  /-- a dict that no one else holds -/
  | ownD (ks vs : List D)
  deriving Inhabited
abbrev Env := List Slot

inductive R (α : Type) where
  | ok (a : α) (st : Store)
  | exc (c : Nat) (d : D) (st : Store)
  | bad
@[inline] def R.bind {α β : Type} (r : R α) (f : α → Store → R β) : R β :=
  match r with
  | .ok a st => f a st
  | .exc c d st => .exc c d st
  | .bad => .bad

/-! ### the language -/
inductive BOp where | add | sub | mul | fdiv | md | pow
  deriving DecidableEq, Repr
inductive COp where | eq | ne | lt | le | gt | ge | is | isnot | isin | notin
  deriving DecidableEq, Repr
/-- built-in functions and methods (a method's receiver is the first argument) -/
inductive Bi where
  | len | int | tuple | list | lrange | sorted | sortedset | all | any | sum | max1 | min1 | max2 | min2 | repr | str
  | join | split | index
  deriving DecidableEq, Repr
inductive Ty where | int | bool | str | list | tuple | dict | cls (c : Nat)
  deriving DecidableEq, Repr
inductive ItK where | seq | rng | rng2 | enum | zip | enumzip
  deriving DecidableEq, Repr
inductive T where
  | nm (i : Nat)
  | own (i : Nat)
  | fld (i : Nat) (f : Nat)
  | tup (ts : List T)
  deriving Inhabited

inductive E where
  | k (d : D)
  | gi (x : Str) (i : Int)
  | fn (f : Nat)
  | var (i : Nat)
  | bor (i : Nat)
  | tup (es : List E)
  | lst (es : List E)
  | edic
  | bin (o : BOp) (a b : E)
  | neg (a : E)
  | cmp (o : COp) (a b : E)
  | chn (o o' : COp) (a b c : E)
  | and (a b : E)
  | or (a b : E)
  | not (a : E)
  | tru (a : E)
  | ite (c a b : E)
  | ix (a i : E)
  | sl (a lo hi : E)
  | fld (a : E) (f : Nat)
  | call (f : Nat) (es : List E)
  | cvar (i : Nat) (es : List E)
  | mk (c : Nat) (es : List E)
  | meth (a : E) (m : Nat) (es : List E)
  | bi (b : Bi) (es : List E)
  | isi (a : E) (ts : List Ty)
  | comp (e : E) (t : T) (ik : ItK) (src : List E) (c : E)
  | refused (f : Nat) (a : E)
  deriving Inhabited

def E.isNon : E → Bool
  | .k .non => true
  | _ => false

inductive S where
  | pass
  | ex (e : E)
  | set (t : T) (e : E)
  | par (ts : List T) (es : List E)
  | newp (i : Nat) (es : List E)
  | frz (i : Nat)
  | app (i : Nat) (e : E)
  | extd (i : Nat) (e : E)
  | popto (j i : Nat)
  | six (i : Nat) (x e : E)
  | aix (i : Nat) (x e : E)
  | aug (i : Nat) (o : BOp) (e : E)
  | if_ (c : E) (a b : List S)
  | for_ (t : T) (ik : ItK) (src : List E) (body : List S)
  | whl (c : E) (body : List S)
  | ret (e : E)
  | rai (c : Nat) (e : E)
  deriving Inhabited

/-- a def: how many names, how many of them parameters, the body -/
structure FD where
  n : Nat
  np : Nat
  body : List S

/-! ### plain data: equality, depth -/
mutual
def D.eqv : D → D → Bool
  | .non, .non => true
  | .bl a, .bl b => a == b
  | .bl a, .int j => (if a then 1 else 0) == j
  | .int i, .bl b => i == (if b then 1 else 0)
  | .int i, .int j => i == j
  | .str x, .str y => x == y
  | .lst xs, .lst ys => D.eqvs xs ys
  | .tup xs, .tup ys => D.eqvs xs ys
  | _, _ => false
def D.eqvs : List D → List D → Bool
  | [], [] => true
  | x :: xs, y :: ys => D.eqv x y && D.eqvs xs ys
  | _, _ => false
end
mutual
def D.depth : D → Nat
  | .lst xs => D.depths xs + 1
  | .tup xs => D.depths xs + 1
  | _ => 0
def D.depths : List D → Nat
  | [] => 0
  | x :: xs => max (D.depth x) (D.depths xs)
end
def strOk (x : Str) : Bool := x.cps.all (· < 0x110000)
mutual
/-- data that can be compared -/
def D.plain : D → Bool
  | .non => true
  | .bl _ => true
  | .int _ => true
  | .str x => strOk x
  | .lst xs => D.plains xs
  | .tup xs => D.plains xs
  | _ => false
def D.plains : List D → Bool
  | [] => true
  | x :: xs => D.plain x && D.plains xs
end

/-! ### operations by values -/
/-- 0 ≤ i < 2^64 or so: what a product wants of one side -/
def smallI (i : Int) : Bool := decide (-(2 ^ 64) < i) && decide (i < 2 ^ 64)
def maxLen : Nat := 1000000
def catL (a b : List D) : Option (List D) := if a.length + b.length ≤ maxLen then some (a ++ b) else none
def repL (a : List D) (n : Int) : Option (List D) :=
  if -1000000 ≤ n ∧ n ≤ 1000000 ∧ a.length * n.toNat ≤ maxLen then some ((List.replicate n.toNat a).flatten) else none
def opB : BOp → D → D → Option D
  | .add, .int i, .int j => some (.int (i + j))
  | .add, .str x, .str y => if x.length + y.length ≤ maxLen then some (.str (x ++ y)) else none
  | .add, .tup a, .tup b => (catL a b).map .tup
  | .add, .lst a, .lst b => (catL a b).map .lst
  | .sub, .int i, .int j => some (.int (i - j))
  | .mul, .int i, .int j => if smallI i || smallI j then some (.int (i * j)) else none
  | .mul, .tup a, .int n => if a ≠ [] ∧ 1 ≤ n ∧ n ≤ 1000 ∧ a.length ≤ 1000 then some (.tup (List.replicate n.toNat a).flatten) else none
  | .mul, .lst a, .int n => (repL a n).map .lst
  | .fdiv, .int i, .int j => if j ≠ 0 ∧ j.natAbs < 1073741824 then some (.int (i.fdiv j)) else none
  | .md, .int i, .int j => if j ≠ 0 then some (.int (i.fmod j)) else none
  | .pow, .int i, .int j => if 0 ≤ j ∧ j ≤ 1000 ∧ i.natAbs < 2 ^ 64 then some (.int (i ^ j.toNat)) else none
  | _, _, _ => none
def eqD (a b : D) : Option Bool := if a.plain && b.plain && decide (min a.depth b.depth ≤ 60) then some (a.eqv b) else none
def inD (a : D) (l : List D) : Option Bool := if a.plain && D.plains l && decide (min a.depth (D.depths l) ≤ 60) then some (l.any fun z => z.eqv a) else none
def isD : D → D → Option Bool
  | .non, .non => some true
  | .bl a, .bl b => some (a == b)
  | .bl _, .non => some false
  | .int _, .non => some false
  | .str _, .non => some false
  | .lst _, .non => some false
  | .tup _, .non => some false
  | .ins _ _, .non => some false
  | .ptr _, .non => some false
  | .dic _ _, .non => some false
  | _, _ => none
def opC : COp → D → D → Option Bool
  | .eq, a, b => eqD a b
  | .ne, a, b => (eqD a b).map (!·)
  | .lt, .int i, .int j => some (decide (i < j))
  | .le, .int i, .int j => some (decide (i ≤ j))
  | .gt, .int i, .int j => some (decide (j < i))
  | .ge, .int i, .int j => some (decide (j ≤ i))
  | .is, a, b => isD a b
  | .isnot, a, b => (isD a b).map (!·)
  | .isin, a, .lst l => inD a l
  | .isin, a, .tup l => inD a l
  | .notin, a, .lst l => (inD a l).map (!·)
  | .notin, a, .tup l => (inD a l).map (!·)
  | _, _, _ => none
/-- the item at a place, from the end for a negative one -/
def atD {α : Type} (l : List α) (i : Int) : Option α :=
  if 0 ≤ i then l[i.toNat]? else if -(l.length : Int) ≤ i then l[(i + l.length).toNat]? else none
/-- a bound of a slice, set into 0 .. n -/
def cutI (n : Nat) : D → Nat → Option Nat
  | .non, d => some d
  | .int i, _ => if i < -1000000 ∨ 1000000 < i then none else some (if i < 0 then (i + n).toNat else min i.toNat n)
  | _, _ => none
def slL (l : List D) (lo hi : D) : Option (List D) := do
  let a ← cutI l.length lo 0
  let b ← cutI l.length hi l.length
  some ((l.take b).drop a)
def slD : D → D → D → Option D
  | .lst l, lo, hi => (slL l lo hi).map .lst
  | .tup l, lo, hi => (slL l lo hi).map .tup
  | _, _, _ => none
def truD : D → Option Bool
  | .non => some false
  | .bl b => some b
  | .int i => some (i != 0)
  | .lst l => some (!l.isEmpty)
  | .tup l => some (!l.isEmpty)
  | _ => none
def intsOf : List D → Option (List Int)
  | [] => some []
  | .int i :: r => (intsOf r).map (i :: ·)
  | _ => none
def blsOf : List D → Option (List Bool)
  | [] => some []
  | .bl b :: r => (blsOf r).map (b :: ·)
  | _ => none
def seqOf : D → Option (List D)
  | .lst l => some l
  | .tup l => some l
  | _ => none

mutual
/-- the order of data of one kind: ints, tuples of such -/
def D.le : D → D → Bool
  | .int i, .int j => decide (i ≤ j)
  | .tup xs, .tup ys => D.les xs ys
  | _, _ => true
def D.les : List D → List D → Bool
  | [], _ => true
  | _ :: _, [] => false
  | x :: xs, y :: ys => if D.eqv x y then D.les xs ys else D.le x y
end
mutual
/-- ints, or tuples of ints, nested alike -/
def D.shape : D → D → Bool
  | .int _, .int _ => true
  | .tup xs, .tup ys => D.shapes xs ys
  | _, _ => false
def D.shapes : List D → List D → Bool
  | [], _ => true
  | _ :: _, [] => true
  | x :: xs, y :: ys => D.shape x y && D.shapes xs ys
end
def D.isT : D → Bool
  | .tup (_ :: _) => true
  | _ => false
def D.isI : D → Bool
  | .int _ => true
  | _ => false
def sortD (l : List D) : Option (List D) :=
  if l.all (fun a => l.all fun b => D.shape a b) && (l.all D.isT || l.all D.isI) && D.plains l && decide (D.depths l ≤ 50) && decide (l.length ≤ maxLen) then some (l.mergeSort D.le) else none
def dedupI : List Int → List Int
  | [] => []
  | i :: r => i :: (dedupI r).filter (· ≠ i)

mutual
/-- as the library's data: what repr tells of -/
def D.pyd : D → PySem.PyData
  | .non => .none
  | .bl b => .bool b
  | .int i => .int i
  | .str s => .str s
  | .lst l => .list (D.pyds l)
  | .tup l => .tuple (D.pyds l)
  | .dic _ _ => .dict []
  | _ => .none
def D.pyds : List D → List PySem.PyData
  | [] => []
  | d :: ds => D.pyd d :: D.pyds ds
end
mutual
/-- no list in it; dicts are empty -/
def D.flat : D → Bool
  | .non => true
  | .bl _ => true
  | .int _ => true
  | .str _ => true
  | .tup l => D.flats l
  | .dic ks vs => ks.isEmpty && vs.isEmpty
  | _ => false
def D.flats : List D → Bool
  | [] => true
  | d :: ds => D.flat d && D.flats ds
end
def reprD (d : D) : Option Str :=
  if (d.plain || d.flat) && d.pyd.showable && decide (d.pyd.shown.length ≤ maxLen) && decide (d.pyd.depth ≤ 60) then some d.pyd.shown else none
def opBi : Bi → List D → Option D
  | .repr, [.tup l] => (reprD (.tup l)).map .str
  | .len, [.lst l] => some (.int l.length)
  | .len, [.tup l] => some (.int l.length)
  | .len, [.str s] => if s.length ≤ maxLen then some (.int s.length) else none
  | .len, [.scr l] => some (.int l.length)
  | .int, [.int i] => some (.int i)
  | .tuple, [.lst l] => some (.tup l)
  | .tuple, [.tup l] => some (.tup l)
  | .list, [.lst l] => some (.lst l)
  | .list, [.tup l] => some (.lst l)
  | .lrange, [.int n] => if n ≤ 1000000 ∧ -1000000 ≤ n then some (.lst ((List.range n.toNat).map fun (i : Nat) => .int (i : Int))) else none
  | .sorted, [.lst l] => (sortD l).map .lst
  | .sortedset, [.lst l] => (intsOf l).bind fun is => if is.length < 64 then some (.lst (((dedupI is).mergeSort (fun a b => decide (a ≤ b))).map .int)) else none
  | .all, [.lst l] => (blsOf l).map fun bs => .bl (bs.all id)
  | .any, [.lst l] => (blsOf l).map fun bs => .bl (bs.any id)
  | .sum, [.lst l] => (intsOf l).map fun is => .int is.sum
  | .max1, [.lst l] => (intsOf l).bind fun is => is.max?.map .int
  | .min1, [.lst l] => (intsOf l).bind fun is => is.min?.map .int
  | .max2, [.int i, .int j] => some (.int (max i j))
  | .min2, [.int i, .int j] => some (.int (min i j))
  | _, _ => none

def tyD : D → Ty → Option Bool
  | .non, _ => some false
  | .bl _, .int => some true
  | .bl _, .bool => some true
  | .bl _, _ => some false
  | .int _, .int => some true
  | .int _, _ => some false
  | .str _, .str => some true
  | .str _, _ => some false
  | .lst _, .list => some true
  | .lst _, _ => some false
  | .tup _, .tuple => some true
  | .tup _, _ => some false
  | .dic _ _, .dict => some true
  | .dic _ _, _ => some false
  | .ins c _, .cls c' => some (c == c')
  | .ins _ _, _ => some false
  | _, _ => none
def isiD (d : D) : List Ty → Option Bool
  | [] => some false
  | t :: r => do
    let b ← tyD d t
    if b then some true else isiD d r

/-- what a for walks, as a list of items -/
def itD : ItK → List D → Option (List D)
  | .seq, [.lst l] => some l
  | .seq, [.tup l] => some l
  | .seq, [.str s] => some (s.cps.toList.map fun c => .str ⟨#[c]⟩)
  | .rng, [.int n] => if n ≤ 1000000 ∧ -1000000 ≤ n then some ((List.range n.toNat).map fun (i : Nat) => .int (i : Int)) else none
  | .rng2, [.int a, .int b] => if -1000000 ≤ a ∧ a ≤ 1000000 ∧ -1000000 ≤ b ∧ b ≤ 1000000 then some ((List.range (b - a).toNat).map fun (i : Nat) => .int (a + (i : Int))) else none
  | .enum, [.lst l] => some (l.zipIdx.map fun p => .tup [.int p.2, p.1])
  | .enum, [.tup l] => some (l.zipIdx.map fun p => .tup [.int p.2, p.1])
  | .enum, [.str s] => some (s.cps.toList.zipIdx.map fun p => .tup [.int p.2, .str ⟨#[p.1]⟩])
  | .zip, [a, b] => do
    let x ← seqOf a
    let y ← seqOf b
    some ((x.zip y).map fun p => .tup [p.1, p.2])
  | .enumzip, [a, b] => do
    let x ← seqOf a
    let y ← seqOf b
    some ((x.zip y).zipIdx.map fun p => .tup [.int p.2, .tup [p.1.1, p.1.2]])
  | _, _ => none

/-! ### the program's tables -/
/-- f(lambda: ..): the clauses of f: an error's class, the word that is told -/
abbrev Clauses := List (Nat × Str)
structure Prog where
  defs : Nat → Option FD
  /-- the fields of a class, in the order in which __init__ stores them -/
  flds : Nat → List Nat
  /-- the def that is a class's __init__ -/
  ini : Nat → Nat
  /-- is an instance changed after __init__? -/
  chg : Nat → Bool
  /-- a class's method by its name -/
  meth : Nat → Nat → Option Nat
  /-- the defs that take a lambda -/
  hand : Nat → Option Clauses

/-- how defs are called: by the level below -/
structure Calls where
  call : Nat → List D → Store → R D
  init : Nat → List D → Store → R (List D)
def Calls.none : Calls := ⟨fun _ _ _ => .bad, fun _ _ _ => .bad⟩

/-! ### targets -/
def getFld (P : Prog) (st : Store) (d : D) (f : Nat) : Option D :=
  match d with
  | .ins c fs => (P.flds c).findIdx? (· == f) |>.bind fun j => fs[j]?
  | .ptr k => match st[k]? with
    | some (.ins c fs) => (P.flds c).findIdx? (· == f) |>.bind fun j => fs[j]?
    | _ => none
  | _ => none
/-- i.f = d -/
def setFld (P : Prog) (ρ : Env) (st : Store) (i f : Nat) (d : D) : Option (Env × Store) :=
  match ρ[i]? with
  | some (.ownI c fs) => if (P.flds c)[fs.length]? == some f then some (ρ.set i (.ownI c (fs ++ [d])), st) else none
  | some (.val (.ptr k)) => match st[k]? with
    | some (.ins c fs) => match (P.flds c).findIdx? (· == f) with
      | some j => if j < fs.length then some (ρ, st.set k (.ins c (fs.set j d))) else none
      | none => none
    | _ => none
  | _ => none
mutual
def asg (P : Prog) : T → D → Env → Store → Option (Env × Store)
  | .nm i, d, ρ, st => if i < ρ.length then some (ρ.set i (.val d), st) else none
  | .own i, d, ρ, st => match d with
    | .lst l => if i < ρ.length then some (ρ.set i (.own l), st) else none
    | .dic ks vs => if i < ρ.length then some (ρ.set i (.ownD ks vs), st) else none
    | _ => none
  | .fld i f, d, ρ, st => setFld P ρ st i f d
  | .tup ts, d, ρ, st => match d with
    | .tup l => asgs P ts l ρ st
    | _ => none
def asgs (P : Prog) : List T → List D → Env → Store → Option (Env × Store)
  | [], [], ρ, st => some (ρ, st)
  | t :: ts, d :: ds, ρ, st => do
    let (ρ1, st1) ← asg P t d ρ st
    asgs P ts ds ρ1 st1
  | _, _, _, _ => none
end
mutual
/-- targets of plain names alone (a for's, a comprehension's) -/
def asgN : T → D → Env → Option Env
  | .nm i, d, ρ => if i < ρ.length then some (ρ.set i (.val d)) else none
  | .tup ts, d, ρ => match d with
    | .tup l => asgNs ts l ρ
    | _ => none
  | _, _, _ => none
def asgNs : List T → List D → Env → Option Env
  | [], [], ρ => some ρ
  | t :: ts, d :: ds, ρ => do
    let ρ1 ← asgN t d ρ
    asgNs ts ds ρ1
  | _, _, _ => none
end
mutual
def T.names : T → List Nat
  | .nm i => [i]
  | .own i => [i]
  | .fld _ _ => []
  | .tup ts => T.namess ts
def T.namess : List T → List Nat
  | [] => []
  | t :: ts => T.names t ++ T.namess ts
end
/-- forgets names -/
def wipeE (ρ : Env) : List Nat → Env
  | [] => ρ
  | i :: r => (wipeE ρ r).set i .no

/-- a thing of the store as it stands -/
def shw (st : Store) : D → D
  | .ptr q => match st[q]? with
    | some (.ins c fs) => if fs.isEmpty then .fn 0 else .ins c fs
    | some (.lst l) => .lst l
    | none => .fn 0
  | .ins c fs => if fs.isEmpty then .fn 0 else .ins c fs
  | d => d
/-! ### expressions -/
def R.ofOpt {α : Type} (o : Option α) (st : Store) : R α := match o with
  | some a => .ok a st
  | none => .bad
/-- a comprehension's turns -/
def compL (turn : D → Store → R (Option D)) : List D → Store → R (List D)
  | [], st => .ok [] st
  | d :: r, st => match turn d st with
    | .ok o st1 => match compL turn r st1 with
      | .ok ds st2 => .ok (match o with | some x => x :: ds | none => ds) st2
      | _ => .bad
    | _ => .bad
/-- f's answer to a call that ended so -/
def toldBy (cl : Clauses) : R D → R D
  | .ok _ st => .ok (.tup [.str "", .non]) st
  | .exc c d st => match cl.lookup c with
    | some w => .ok (.tup [.str w, d]) st
    | none => .bad
  | .bad => .bad

mutual
def ev (P : Prog) (C : Calls) : E → Env → Store → R D
  | .k d, _, st => .ok d st
  | .gi _ i, _, st => .ok (.int i) st
  | .fn f, _, st => .ok (.fn f) st
  | .var i, ρ, st => match ρ[i]? with
    | some (.val d) => .ok d st
    | _ => .bad
  | .bor i, ρ, st => match ρ[i]? with
    | some (.val d) => .ok d st
    | some (.own l) => .ok (.lst l) st
    | some (.ownD ks vs) => .ok (.dic ks vs) st
    | _ => .bad
  | .tup es, ρ, st => (evs P C es ρ st).bind fun ds st => .ok (.tup ds) st
  | .lst es, ρ, st => (evs P C es ρ st).bind fun ds st => .ok (.lst ds) st
  | .edic, _, st => .ok (.dic [] []) st
  | .bin o a b, ρ, st => (ev P C a ρ st).bind fun x st => (ev P C b ρ st).bind fun y st => R.ofOpt (opB o x y) st
  | .neg a, ρ, st => (ev P C a ρ st).bind fun x st => match x with
    | .int i => .ok (.int (-i)) st
    | _ => .bad
  | .cmp o a b, ρ, st => (ev P C a ρ st).bind fun x st => (ev P C b ρ st).bind fun y st => R.ofOpt ((opC o x y).map .bl) st
  | .chn o o' a b c, ρ, st => (ev P C a ρ st).bind fun x st => (ev P C b ρ st).bind fun y st => match opC o x y with
    | some true => (ev P C c ρ st).bind fun z st => R.ofOpt ((opC o' y z).map .bl) st
    | some false => .ok (.bl false) st
    | none => .bad
  | .and a b, ρ, st => (ev P C a ρ st).bind fun x st => match x with
    | .bl true => ev P C b ρ st
    | .bl false => .ok (.bl false) st
    | _ => .bad
  | .or a b, ρ, st => (ev P C a ρ st).bind fun x st => match x with
    | .bl true => .ok (.bl true) st
    | .bl false => ev P C b ρ st
    | _ => .bad
  | .not a, ρ, st => (ev P C a ρ st).bind fun x st => match x with
    | .bl b => .ok (.bl (!b)) st
    | _ => .bad
  | .tru a, ρ, st => (ev P C a ρ st).bind fun x st => R.ofOpt ((truD x).map .bl) st
  | .ite c a b, ρ, st => (ev P C c ρ st).bind fun x st => match x with
    | .bl true => ev P C a ρ st
    | .bl false => ev P C b ρ st
    | _ => .bad
  | .ix a i, ρ, st => (ev P C a ρ st).bind fun x st => (ev P C i ρ st).bind fun y st => match y with
    | .int j => match x with
      | .lst l => R.ofOpt (atD l j) st
      | .tup l => R.ofOpt (atD l j) st
      | .scr l => R.ofOpt ((atD l j).map .int) st
      | .ptr q => match st[q]? with
        | some (.lst l) => R.ofOpt (atD l j) st
        | _ => .bad
      | _ => .bad
    | _ => .bad
  | .sl a lo hi, ρ, st => (ev P C a ρ st).bind fun x st => (ev P C lo ρ st).bind fun y st => if lo.isNon || y.isI then (ev P C hi ρ st).bind fun z st => if hi.isNon || z.isI then R.ofOpt (slD x y z) st else .bad else .bad
  | .fld a f, ρ, st => (ev P C a ρ st).bind fun x st => R.ofOpt (getFld P st x f) st
  | .call f es, ρ, st => (evs P C es ρ st).bind fun ds st => C.call f ds st
  | .cvar i es, ρ, st => match ρ[i]? with
    | some (.val (.fn f)) => if (P.defs f).isSome then (evs P C es ρ st).bind fun ds st => C.call f ds st else .bad
    | _ => .bad
  | .mk c es, ρ, st => (evs P C es ρ st).bind fun ds st => (C.init c ds st).bind fun fs st =>
      if P.chg c then .ok (.ptr st.length) (st ++ [.ins c fs]) else .ok (.ins c fs) st
  | .meth a m es, ρ, st => (ev P C a ρ st).bind fun x st => match x with
    | .ins c _ => match P.meth c m with
      | some f => (evs P C es ρ st).bind fun ds st => C.call f (x :: ds) st
      | none => .bad
    | .ptr q => match st[q]? with
      | some (.ins c _) => match P.meth c m with
        | some f => (evs P C es ρ st).bind fun ds st => C.call f (x :: ds) st
        | none => .bad
      | _ => .bad
    | _ => .bad
  | .bi b es, ρ, st => (evs P C es ρ st).bind fun ds st => R.ofOpt (opBi b ds) st
  | .isi a ts, ρ, st => (ev P C a ρ st).bind fun x st => R.ofOpt ((isiD (shw st x) ts).map .bl) st
  | .comp e t ik src c, ρ, st => (evs P C src ρ st).bind fun ds st => match itD ik ds with
    | some items => (compL (fun d st => match asgN t d (wipeE ρ t.names) with
        | some ρ1 => (ev P C c ρ1 st).bind fun b st => match b with
          | .bl true => (ev P C e ρ1 st).bind fun v st => .ok (some v) st
          | .bl false => .ok Option.none st
          | _ => .bad
        | Option.none => .bad) items st).bind fun vs st => if vs.length ≤ maxLen then .ok (.lst vs) st else .bad
    | Option.none => .bad
  | .refused f a, ρ, st => match P.hand f with
    | some cl => toldBy cl (ev P C a ρ st)
    | Option.none => .bad
def evs (P : Prog) (C : Calls) : List E → Env → Store → R (List D)
  | [], _, st => .ok [] st
  | e :: es, ρ, st => (ev P C e ρ st).bind fun d st => (evs P C es ρ st).bind fun ds st => .ok (d :: ds) st
end

/-! ### statements -/
inductive Out where
  | nx (ρ : Env) (st : Store)
  | rt (d : D) (st : Store)
  | exc (c : Nat) (d : D) (st : Store)
  | bad
def R.out {α : Type} (r : R α) (f : α → Store → Out) : Out := match r with
  | .ok a st => f a st
  | .exc c d st => .exc c d st
  | .bad => .bad
def Out.bind (o : Out) (f : Env → Store → Out) : Out := match o with
  | .nx ρ st => f ρ st
  | .rt d st => .rt d st
  | .exc c d st => .exc c d st
  | .bad => .bad
def Out.ofOpt {α : Type} (o : Option α) (f : α → Out) : Out := match o with
  | some a => f a
  | none => .bad
def frzE (ρ : Env) (i : Nat) : Env := match ρ[i]? with
  | some (.own l) => ρ.set i (.val (.lst l))
  | some (.ownD ks vs) => ρ.set i (.val (.dic ks vs))
  | _ => ρ
/-- a for's turns -/
def forL (turn : D → Env → Store → Out) : List D → Env → Store → Out
  | [], ρ, st => .nx ρ st
  | d :: r, ρ, st => (turn d ρ st).bind fun ρ st => forL turn r ρ st
/-- a while's turns: at most w -/
def whileL (test : Env → Store → R D) (body : Env → Store → Out) : Nat → Env → Store → Out
  | 0, _, _ => .bad
  | w + 1, ρ, st => (test ρ st).out fun b st => match b with
    | .bl true => (body ρ st).bind fun ρ st => whileL test body w ρ st
    | .bl false => .nx ρ st
    | _ => .bad
/-- a list's item is stored -/
def putAt (l : List D) (j : Int) (d : D) : Option (List D) :=
  if 0 ≤ j ∧ j < l.length then some (l.set j.toNat d) else none
mutual
def ex (P : Prog) (C : Calls) (w : Nat) : S → Env → Store → Out
  | .pass, ρ, st => .nx ρ st
  | .ex e, ρ, st => (ev P C e ρ st).out fun _ st => .nx ρ st
  | .set t e, ρ, st => (ev P C e ρ st).out fun d st => Out.ofOpt (asg P t d ρ st) fun q => .nx q.1 q.2
  | .par ts es, ρ, st => (evs P C es ρ st).out fun ds st => Out.ofOpt (asgs P ts ds ρ st) fun q => .nx q.1 q.2
  | .newp i es, ρ, st => (evs P C es ρ st).out fun ds st => if i < ρ.length then .nx (ρ.set i (.val (.ptr st.length))) (st ++ [.lst ds]) else .bad
  | .frz i, ρ, st => .nx (frzE ρ i) st
  | .app i e, ρ, st => match ρ[i]? with
    | some (.own l) => (ev P C e ρ st).out fun d st => if l.length ≤ maxLen then .nx (ρ.set i (.own (l ++ [d]))) st else .bad
    | _ => .bad
  | .extd i e, ρ, st => match ρ[i]? with
    | some (.own l) => (ev P C e ρ st).out fun d st => match d with
      | .lst l' => Out.ofOpt (catL l l') fun q => .nx (ρ.set i (.own q)) st
      | _ => .bad
    | _ => .bad
  | .popto j i, ρ, st => match ρ[i]? with
    | some (.own l) => match l.getLast? with
      | some d => if j < ρ.length ∧ j ≠ i then .nx ((ρ.set i (.own l.dropLast)).set j (.val d)) st else .bad
      | Option.none => .bad
    | _ => .bad
  | .six i x e, ρ, st => (ev P C e ρ st).out fun d st => match ρ[i]? with
    | some (.own l) => (ev P C x ρ st).out fun y st => match y with
      | .int j => Out.ofOpt (putAt l j d) fun l' => .nx (ρ.set i (.own l')) st
      | _ => .bad
    | some (.val (.ptr k)) => (ev P C x ρ st).out fun y st => match y, st[k]? with
      | .int j, some (.lst l) => Out.ofOpt (putAt l j d) fun l' => .nx ρ (st.set k (.lst l'))
      | _, _ => .bad
    | _ => .bad
  | .aix i x e, ρ, st => match ρ[i]? with
    | some (.own l) => (ev P C x ρ st).out fun y st => match y with
      | .int j => match atD l j with
        | some (.int a) => (ev P C e ρ st).out fun d st => match d with
          | .int b => Out.ofOpt (putAt l j (.int (a + b))) fun q => .nx (ρ.set i (.own q)) st
          | _ => .bad
        | _ => .bad
      | _ => .bad
    | _ => .bad
  | .aug i o e, ρ, st => match ρ[i]? with
    | some (.val (.int a)) => (ev P C e ρ st).out fun d st => match d with
      | .int b => Out.ofOpt (opB o (.int a) (.int b)) fun z => .nx (ρ.set i (.val z)) st
      | _ => .bad
    | _ => .bad
  | .if_ c a b, ρ, st => (ev P C c ρ st).out fun d st => match d with
    | .bl true => exs P C w a ρ st
    | .bl false => exs P C w b ρ st
    | _ => .bad
  | .for_ t ik src body, ρ, st => (evs P C src ρ st).out fun ds st => Out.ofOpt (itD ik ds) fun items =>
      forL (fun d ρ st => Out.ofOpt (asgN t d ρ) fun ρ1 => exs P C w body ρ1 st) items ρ st
  | .whl c body, ρ, st => whileL (fun ρ st => ev P C c ρ st) (fun ρ st => exs P C w body ρ st) w ρ st
  | .ret e, ρ, st => (ev P C e ρ st).out fun d st => .rt d st
  | .rai c e, ρ, st => (ev P C e ρ st).out fun d st => .exc c d st
def exs (P : Prog) (C : Calls) (w : Nat) : List S → Env → Store → Out
  | [], ρ, st => .nx ρ st
  | s :: r, ρ, st => (ex P C w s ρ st).bind fun ρ st => exs P C w r ρ st
end

/-! ### defs, by levels -/
def Out.answer : Out → R D
  | .nx _ st => .ok .non st
  | .rt d st => .ok d st
  | .exc c d st => .exc c d st
  | .bad => .bad
/-- behind an __init__ -/
def Out.made (P : Prog) (c : Nat) : Out → R (List D)
  | .nx ρ st => match (ρ[0]? : Option Slot) with
    | some (.ownI c' fs) => if c' = c ∧ fs.length = (P.flds c).length then .ok fs st else .bad
    | _ => .bad
  | .exc c d st => .exc c d st
  | _ => .bad
def FD.start (f : FD) (ss : List Slot) : Env := ss ++ List.replicate (f.n - ss.length) .no
def callsN (P : Prog) (w : Nat) : Nat → Calls
  | 0 => Calls.none
  | n + 1 => {
      call := fun f ds st => match P.defs f with
        | some fd => if ds.length = fd.np then (exs P (callsN P w n) w fd.body (fd.start (ds.map .val)) st).answer else .bad
        | Option.none => .bad
      init := fun c ds st => match P.defs (P.ini c) with
        | some fd => if ds.length + 1 = fd.np then (exs P (callsN P w n) w fd.body (fd.start (.ownI c [] :: ds.map .val)) st).made P c else .bad
        | Option.none => .bad }
end Mini
end
section

/-! # Mini: where a text's defs, classes, errors stand, by the numbers of gen.py -/
namespace Mini
structure Ix where
  fn : Nat → Nat
  cls : Nat → Nat
  exc : Nat → Nat
theorem sorted_is {ns ms : List Int} (hs : ms.Pairwise (· < ·)) (hm : ∀ k, k ∈ ms ↔ k ∈ ns) : ms = (dedupI ns).mergeSort (fun a b => decide (a ≤ b)) := by
  have dm : ∀ (l : List Int) (k : Int), k ∈ dedupI l ↔ k ∈ l := fun l => by
    induction l with
    | nil => exact fun k => Iff.rfl
    | cons i r ih =>
      intro k
      simp only [dedupI, List.mem_cons, List.mem_filter, ih]
      by_cases e : k = i <;> simp [e]
  have dn : ∀ l : List Int, (dedupI l).Nodup := fun l => by
    induction l with
    | nil => exact List.nodup_nil
    | cons i r ih =>
      simp only [dedupI]
      exact List.nodup_cons.mpr ⟨by simp, ih.filter _⟩
  have p1 : ((dedupI ns).mergeSort (fun a b => decide (a ≤ b))).Pairwise (· ≤ ·) := by
    have := List.pairwise_mergeSort (le := fun (a b : Int) => decide (a ≤ b)) (fun a b c h1 h2 => by simp at *; omega) (fun a b => by simp; omega) (dedupI ns)
    exact this.imp fun h => by simpa using h
  have pn : ((dedupI ns).mergeSort (fun a b => decide (a ≤ b))).Nodup := (List.mergeSort_perm _ _).nodup_iff.mpr (dn ns)
  have p2 : ms.Nodup := hs.imp fun h => by omega
  have pp : ms.Perm ((dedupI ns).mergeSort (fun a b => decide (a ≤ b))) := (List.perm_ext_iff_of_nodup p2 pn).mpr fun k => by
    rw [hm, (List.mergeSort_perm _ _).mem_iff, dm]
  exact pp.eq_of_pairwise (fun a b _ _ h1 h2 => by omega) (hs.imp fun h => by omega) p1
end Mini
end
section
set_option Elab.async false
set_option linter.all false
set_option maxRecDepth 100000
set_option maxHeartbeats 2000000
/-! # Mini: how data lie in the hand layer's heap -/
namespace Mini
open PySem L2

/-- the names of the text -/
structure Nm where
  fn : Nat → Str
  cls : Nat → Str
  exc : Nat → Str
  fld : Nat → Str
  met : Nat → Str
  gi : Str → Option Int
  /-- how many own errors -/
  nE : Nat
  /-- the defs that stand at the text's top -/
  top : Nat → Bool
/-- where defs, classes, own errors stand -/
structure Ad where
  f : Nat → Addr
  c : Nat → Addr
  e : Nat → Addr
/-- all that stays as it is through a law -/
structure G where
  PR : Prog
  NM : Nm
  AD : Ad
  K : PySem.W.Frag
  T : List (Addr × Str)
abbrev G.names (g : G) (c : Nat) : List Str := (g.PR.flds c).map g.NM.fld

def keyD : D → Option Key
  | .int i => some (.inl i)
  | .str s => some (.inr s)
  | _ => none

section
variable (g : G) (μ : Addr → Prop) (α : List Addr) (H : Hp)
def LstA (a : Addr) (vs : List V) : Prop := H a = some (.lst vs) ∧ ¬ μ a
def TupA (a : Addr) (vs : List V) : Prop := H a = some (.tup vs) ∧ ¬ μ a
/-- the script's list, however it is known -/
def ScrA (a : Addr) (vs : List V) : Prop := (Rd H a (.lst vs) ∧ ¬ μ a) ∨ ∀ H', SqL g.K H' a vs
mutual
/-- the value v is the datum; nothing that may be changed is in it but the store's things -/
def At : D → V → Prop
  | .non, v => v = .non
  | .bl b, v => v = .bl b
  | .int i, v => v = .int i
  | .str s, v => v = .str s
  | .lst l, v => ∃ a vs, v = .ref a ∧ LstA μ H a vs ∧ Ats l vs
  | .tup l, v => ∃ a vs, v = .ref a ∧ TupA μ H a vs ∧ Ats l vs
  | .scr l, v => ∃ a, v = .ref a ∧ ScrA g μ H a (l.map V.int)
  | .fn f, v => v = .ref (g.AD.f f)
  | .ins c fs, v => ∃ a dx vs, v = .ref a ∧ ¬ μ a ∧ H a = some (.ins (g.AD.c c) dx ((g.names c).zip vs)) ∧ fs.length = (g.PR.flds c).length ∧ Ats fs vs
  | .ptr k, v => ∃ a, v = .ref a ∧ α[k]? = some a
  | .dic ks vs, v => ∃ a kvs, v = .ref a ∧ ¬ μ a ∧ H a = some (.dK kvs) ∧ ks.map keyD = kvs.map (fun p => some p.1) ∧ Ats vs (kvs.map (·.2))
def Ats : List D → List V → Prop
  | [], vs => vs = []
  | d :: ds, vs => ∃ v r, vs = v :: r ∧ At d v ∧ Ats ds r
end
end

theorem ScrA.rd {g : G} {μ : Addr → Prop} {H : Hp} {a : Addr} {vs : List V} (h : ScrA g μ H a vs) : SqL g.K H a vs := by
  rcases h with ⟨h, _⟩ | h
  · exact .inl h
  · exact h H

/-- not a table -/
abbrev NT (o : HO) : Prop := ∀ ps, o ≠ .tbl ps
/-- something stands at a that is no table -/
def Ob (H : Hp) (a : Addr) : Prop := ∃ o, H a = some o ∧ NT o
theorem Ob.of {H : Hp} {a : Addr} {o : HO} (h : H a = some o) (t : NT o) : Ob H a := ⟨o, h, t⟩
theorem Ob.ne {H : Hp} {a p : Addr} (h : Ob H a) (hp : H p = none) : a ≠ p := fun e => by
  obtain ⟨o, q, _⟩ := h
  rw [e, hp] at q
  cases q
theorem not_ob {H : Hp} {p : Addr} (hp : H p = none) : ¬ Ob H p := fun h => h.ne hp rfl
theorem Ob.upd {H : Hp} {a p : Addr} {o : HO} (h : Ob H a) (n : NT o) : Ob (L2.upd H p o) a := by
  by_cases e : a = p
  · subst e
    exact ⟨o, upd_same, n⟩
  · obtain ⟨u, q, t⟩ := h
    exact ⟨u, by rw [upd_ne e]; exact q, t⟩
theorem Ob.keep {H : Hp} {a p : Addr} {o : HO} (h : Ob H a) (hp : H p = none) : Ob (L2.upd H p o) a := by
  obtain ⟨u, q, t⟩ := h
  exact ⟨u, by rw [upd_ne (ne_of_none q hp)]; exact q, t⟩
structure Mono (μ μ' : Addr → Prop) (α α' : List Addr) (H H' : Hp) : Prop where
  keep : ∀ a o, H a = some o → ¬ μ a → NT o → H' a = some o
  less : ∀ a, Ob H a → μ' a → μ a
  pre : ∀ (k : Nat) a, α[k]? = some a → α'[k]? = some a
section
variable {g : G} {μ μ' : Addr → Prop} {α α' : List Addr} {H H' : Hp} (m : Mono μ μ' α α' H H')
include m
theorem Mono.scr {a : Addr} {vs : List V} (h : ScrA g μ H a vs) : ScrA g μ' H' a vs := by
  rcases h with ⟨h | ⟨o, h⟩, n⟩ | h
  · exact .inl ⟨.inl (m.keep _ _ h n (fun _ => nofun)), fun z => n (m.less a (Ob.of h (fun _ => nofun)) z)⟩
  · exact .inl ⟨.inr ⟨o, m.keep _ _ h n (fun _ => nofun)⟩, fun z => n (m.less a (Ob.of h (fun _ => nofun)) z)⟩
  · exact .inr h
theorem Mono.lst {a : Addr} {vs : List V} (h : LstA μ H a vs) : LstA μ' H' a vs :=
  ⟨m.keep _ _ h.1 h.2 (fun _ => nofun), fun z => h.2 (m.less a (Ob.of h.1 (fun _ => nofun)) z)⟩
theorem Mono.tup {a : Addr} {vs : List V} (h : TupA μ H a vs) : TupA μ' H' a vs :=
  ⟨m.keep _ _ h.1 h.2 (fun _ => nofun), fun z => h.2 (m.less a (Ob.of h.1 (fun _ => nofun)) z)⟩
mutual
theorem Mono.at : ∀ (d : D) (v : V), At g μ α H d v → At g μ' α' H' d v
  | .non, _, h => h
  | .bl _, _, h => h
  | .int _, _, h => h
  | .str _, _, h => h
  | .lst l, _, ⟨a, vs, e, h1, h2⟩ => ⟨a, vs, e, m.lst h1, Mono.ats l vs h2⟩
  | .tup l, _, ⟨a, vs, e, h1, h2⟩ => ⟨a, vs, e, m.tup h1, Mono.ats l vs h2⟩
  | .scr _, _, ⟨a, e, h⟩ => ⟨a, e, m.scr h⟩
  | .fn _, _, h => h
  | .ins c fs, _, ⟨a, dx, vs, e, n, h, l, h2⟩ => ⟨a, dx, vs, e, fun z => n (m.less a (Ob.of h (fun _ => nofun)) z), m.keep _ _ h n (fun _ => nofun), l, Mono.ats fs vs h2⟩
  | .ptr k, _, ⟨a, e, h⟩ => ⟨a, e, m.pre k a h⟩
  | .dic ks vs, _, ⟨a, kvs, e, n, h, l, h2⟩ => ⟨a, kvs, e, fun z => n (m.less a (Ob.of h (fun _ => nofun)) z), m.keep _ _ h n (fun _ => nofun), l, Mono.ats vs _ h2⟩
theorem Mono.ats : ∀ (ds : List D) (vs : List V), Ats g μ α H ds vs → Ats g μ' α' H' ds vs
  | [], _, h => h
  | d :: ds, _, ⟨v, r, e, h1, h2⟩ => ⟨v, r, e, Mono.at d v h1, Mono.ats ds r h2⟩
end
end

section
variable {g : G} {μ : Addr → Prop} {α : List Addr} {H : Hp}
theorem Ats.length : ∀ {ds : List D} {vs : List V}, Ats g μ α H ds vs → ds.length = vs.length
  | [], _, h => by cases h; rfl
  | _ :: ds, _, ⟨v, r, e, _, h2⟩ => by rw [e]; simp [Ats.length h2]
theorem Ats.get : ∀ {ds : List D} {vs : List V} {i : Nat} {d : D}, Ats g μ α H ds vs → ds[i]? = some d → ∃ v, vs[i]? = some v ∧ At g μ α H d v
  | _ :: ds, _, 0, d, ⟨v, r, e, h1, _⟩, h => by simp at h; subst h; exact ⟨v, by rw [e]; rfl, h1⟩
  | _ :: ds, _, i + 1, d, ⟨v, r, e, _, h2⟩, h => by
    obtain ⟨w, hw, ha⟩ := Ats.get (i := i) h2 (by simpa using h)
    exact ⟨w, by rw [e]; simpa using hw, ha⟩
theorem Ats.getV {ds : List D} {vs : List V} {i : Nat} {v : V} (h : Ats g μ α H ds vs) (e : vs[i]? = some v) : ∃ d, ds[i]? = some d ∧ At g μ α H d v := by
  have hl := h.length
  obtain ⟨hi, _⟩ := List.getElem?_eq_some_iff.mp e
  obtain ⟨w, hw, ha⟩ := h.get (i := i) (d := ds[i]'(by omega)) (List.getElem?_eq_getElem _)
  rw [e] at hw
  cases hw
  exact ⟨_, List.getElem?_eq_getElem _, ha⟩
theorem Ats.append : ∀ {ds es : List D} {vs us : List V}, Ats g μ α H ds vs → Ats g μ α H es us → Ats g μ α H (ds ++ es) (vs ++ us)
  | [], _, _, _, h, h' => by cases h; exact h'
  | _ :: ds, _, _, _, ⟨v, r, e, h1, h2⟩, h' => by subst e; exact ⟨v, _, rfl, h1, Ats.append h2 h'⟩
theorem Ats.one {d : D} {v : V} (h : At g μ α H d v) : Ats g μ α H [d] [v] := ⟨v, [], rfl, h, rfl⟩
theorem Ats.two {d e : D} {v u : V} (h : At g μ α H d v) (h' : At g μ α H e u) : Ats g μ α H [d, e] [v, u] := ⟨v, [u], rfl, h, Ats.one h'⟩
theorem Ats.take : ∀ {ds : List D} {vs : List V} (n : Nat), Ats g μ α H ds vs → Ats g μ α H (ds.take n) (vs.take n)
  | _, _, 0, _ => rfl
  | [], _, n + 1, h => by cases h; rfl
  | _ :: ds, _, n + 1, ⟨v, r, e, h1, h2⟩ => by subst e; exact ⟨v, _, rfl, h1, Ats.take n h2⟩
theorem Ats.drop : ∀ {ds : List D} {vs : List V} (n : Nat), Ats g μ α H ds vs → Ats g μ α H (ds.drop n) (vs.drop n)
  | _, _, 0, h => h
  | [], _, n + 1, h => by cases h; rfl
  | _ :: ds, _, n + 1, ⟨v, r, e, h1, h2⟩ => by subst e; exact Ats.drop n h2
theorem Ats.set {d : D} {v : V} (h : At g μ α H d v) : ∀ {ds : List D} {vs : List V} (n : Nat), Ats g μ α H ds vs → Ats g μ α H (ds.set n d) (vs.set n v)
  | [], _, _, h => by cases h; rfl
  | _ :: ds, _, 0, ⟨_, r, e, h1, h2⟩ => by subst e; exact ⟨v, _, rfl, h, h2⟩
  | _ :: ds, _, n + 1, ⟨_, r, e, h1, h2⟩ => by subst e; exact ⟨_, _, rfl, h1, Ats.set h n h2⟩
theorem Ats.dropLast {ds : List D} {vs : List V} (h : Ats g μ α H ds vs) : Ats g μ α H ds.dropLast vs.dropLast := by
  rw [List.dropLast_eq_take, List.dropLast_eq_take, ← h.length]
  exact h.take _
theorem Ats.of_all : ∀ {ds : List D} {vs : List V}, ds.length = vs.length → (∀ (i : Nat) d v, ds[i]? = some d → vs[i]? = some v → At g μ α H d v) → Ats g μ α H ds vs
  | [], [], _, _ => rfl
  | d :: ds, v :: vs, hl, h => ⟨v, vs, rfl, h 0 d v rfl rfl, Ats.of_all (by simpa using hl) fun i d' v' e1 e2 => h (i + 1) d' v' (by simpa using e1) (by simpa using e2)⟩
theorem Ats.rep {ds : List D} {vs : List V} (h : Ats g μ α H ds vs) : ∀ n : Nat, Ats g μ α H (List.replicate n ds).flatten (List.replicate n vs).flatten
  | 0 => rfl
  | n + 1 => by
    rw [List.replicate_succ, List.replicate_succ, List.flatten_cons, List.flatten_cons]
    exact h.append (Ats.rep h n)
theorem Ats.ints {ds : List D} : ∀ {vs : List V} {is : List Int}, Ats g μ α H ds vs → intsOf ds = some is → vs = is.map V.int := by
  induction ds with
  | nil =>
    intro vs is h e
    cases h
    simp only [intsOf, Option.some.injEq] at e
    subst e
    rfl
  | cons d ds ih =>
    intro vs is h e
    obtain ⟨v, r, ev, h1, h2⟩ := h
    cases d with
    | int i =>
      simp only [intsOf, Option.map_eq_some_iff] at e
      obtain ⟨js, ej, e⟩ := e
      subst e ev
      rw [ih h2 ej, show v = .int i from h1]
      rfl
    | _ => simp [intsOf] at e
theorem Ats.bls {ds : List D} : ∀ {vs : List V} {bs : List Bool}, Ats g μ α H ds vs → blsOf ds = some bs → vs = bs.map V.bl := by
  induction ds with
  | nil =>
    intro vs is h e
    cases h
    simp only [blsOf, Option.some.injEq] at e
    subst e
    rfl
  | cons d ds ih =>
    intro vs is h e
    obtain ⟨v, r, ev, h1, h2⟩ := h
    cases d with
    | bl i =>
      simp only [blsOf, Option.map_eq_some_iff] at e
      obtain ⟨js, ej, e⟩ := e
      subst e ev
      rw [ih h2 ej, show v = .bl i from h1]
      rfl
    | _ => simp [blsOf] at e
end

/-! ### a frame: the names' data, the store -/
/-- from one heap to a later one: nothing but the store's things and the tables is changed; new things of the store are new -/
structure Nx (α : List Addr) (H : Hp) (α' : List Addr) (H' : Hp) : Prop where
  keep : ∀ a o, H a = some o → a ∉ α → NT o → H' a = some o
  there : ∀ a, Ob H a → Ob H' a
  pre : ∃ β, α' = α ++ β ∧ ∀ a ∈ β, ¬ Ob H a
theorem Nx.refl (α : List Addr) (H : Hp) : Nx α H α H := ⟨fun _ _ h _ _ => h, fun _ h => h, [], by simp, by simp⟩
theorem Nx.trans {α α1 α2 : List Addr} {H H1 H2 : Hp} (a : Nx α H α1 H1) (b : Nx α1 H1 α2 H2) : Nx α H α2 H2 := by
  obtain ⟨β, e1, n1⟩ := a.pre
  obtain ⟨β2, e2, n2⟩ := b.pre
  refine ⟨fun x o h n t => b.keep x o (a.keep x o h n t) ?_ t, fun x h => b.there x (a.there x h), β ++ β2, by rw [e2, e1, List.append_assoc], fun x hx => ?_⟩
  · rw [e1]
    intro hx
    rcases List.mem_append.mp hx with z | z
    · exact n z
    · exact n1 x z (Ob.of h t)
  · rcases List.mem_append.mp hx with z | z
    · exact n1 x z
    · exact fun h => n2 x z (a.there x h)
/-- a new object -/
theorem Nx.new {α : List Addr} {H : Hp} {p : Addr} {o : HO} (h : H p = none) : Nx α H α (upd H p o) := by
  refine ⟨fun a u e _ _ => by rw [upd_ne (ne_of_none e h)]; exact e, fun a e => e.keep h, [], by simp, by simp⟩

structure Fr where
  α0 : List Addr
  H0 : Hp
  ν : Addr → Prop
  α : List Addr
  ω : List (Option Addr)
  ρ : Env
  st : Store
  /-- the instance that the frame makes -/
  me : Option Addr := none
/-- what may be changed, or others may change -/
def Fr.μ (F : Fr) (a : Addr) : Prop := F.ν a ∨ a ∈ F.α ∨ some a ∈ F.ω
abbrev Fr.to (F : Fr) (α : List Addr) (st : Store) : Fr := { F with α := α, st := st }

/-- a thing of the store at a -/
def SoR (g : G) (μ : Addr → Prop) (α : List Addr) (H : Hp) (a : Addr) : SO → Prop
  | .lst l => ∃ vs, H a = some (.lst vs) ∧ Ats g μ α H l vs
  | .ins c fs => ∃ dx vs, H a = some (.ins (g.AD.c c) dx ((g.names c).zip vs)) ∧ fs.length = (g.PR.flds c).length ∧ Ats g μ α H fs vs
def SlR (g : G) (μ : Addr → Prop) (α : List Addr) (H : Hp) (w : Option Addr) (x : Option V) : Slot → Prop
  | .no => True
  | .val d => ∃ v, x = some v ∧ At g μ α H d v
  | .own l => ∃ a vs, w = some a ∧ x = some (.ref a) ∧ H a = some (.lst vs) ∧ Ats g μ α H l vs
  | .ownI c fs => ∃ a dx vs, w = some a ∧ x = some (.ref a) ∧ H a = some (.ins (g.AD.c c) dx (((g.names c).take fs.length).zip vs)) ∧ fs.length ≤ (g.PR.flds c).length ∧ Ats g μ α H fs vs
  | .ownD ks vs => ∃ a kvs, w = some a ∧ x = some (.ref a) ∧ H a = some (.dK kvs) ∧ ks.map keyD = kvs.map (fun p => some p.1) ∧ Ats g μ α H vs (kvs.map (·.2))
/-- the frame F at the slots σ and the heap H, entered at α0, H0 -/
structure Rep (g : G) (F : Fr) (σ : L2.St) (H : Hp) : Prop where
  ent : Nx F.α0 F.H0 F.α H
  ow0 : ∀ a, some a ∈ F.ω → ¬ Ob F.H0 a ∧ Ob H a ∧ a ∉ F.α
  al0 : ∀ a, a ∈ F.α → Ob H a
  nd : (F.ω.filterMap id).Nodup
  nda : F.α.Nodup
  nu : ∀ a, F.ν a → Ob H a ∧ a ∉ F.α ∧ some a ∉ F.ω
  tabs : LamX.Tabs g.T H
  alen : F.α.length = F.st.length
  objs : ∀ (k : Nat) o, F.st[k]? = some o → ∃ a, F.α[k]? = some a ∧ SoR g F.μ F.α H a o
  len : F.ρ.length = σ.length
  wlen : F.ω.length = F.ρ.length
  slots : ∀ (i : Nat) s, F.ρ[i]? = some s → SlR g F.μ F.α H (F.ω[i]?.join) (σ[i]?.join) s
  me : ∀ (i : Nat) c fs, F.ρ[i]? = some (.ownI c fs) → F.ω[i]?.join = F.me

theorem Fr.mono {F : Fr} {α' : List Addr} {st' : Store} {H H' : Hp} (n : Nx F.α H α' H') : Mono F.μ (F.to α' st').μ F.α α' H H' := by
  obtain ⟨β, e, nb⟩ := n.pre
  refine ⟨fun a o h nm t => n.keep a o h (fun z => nm (.inr (.inl z))) t, fun a h z => ?_, fun k a h => ?_⟩
  · rcases z with z | z | z
    · exact .inl z
    · have z' : a ∈ F.α ++ β := by rw [← e]; exact z
      rcases List.mem_append.mp z' with q | q
      · exact .inr (.inl q)
      · exact absurd h (nb a q)
    · exact .inr (.inr z)
  · rw [e, List.getElem?_append_left (by
      obtain ⟨h1, _⟩ := List.getElem?_eq_some_iff.mp h
      exact h1)]
    exact h
section
variable {g : G} {F : Fr} {σ : L2.St} {H H' : Hp}
/-- what may be changed is there -/
theorem Rep.mu_there (r : Rep g F σ H) {a : Addr} (h : F.μ a) : Ob H a := by
  rcases h with z | z | z
  · exact (r.nu a z).1
  · exact r.al0 a z
  · exact (r.ow0 a z).2.1
/-- a new object is none of what may be changed -/
theorem Rep.new_mu (r : Rep g F σ H) {p : Addr} (h : H p = none) : ¬ F.μ p := fun z => not_ob h (r.mu_there z)
/-- things are made, or tables written; nothing else -/
theorem Rep.later (r : Rep g F σ H) (n : Nx [] H [] H') (t : LamX.Tabs g.T H') : Rep g F σ H' := by
  have nF : Nx F.α H F.α H' := ⟨fun a o h _ q => n.keep a o h (by simp) q, n.there, [], by simp, by simp⟩
  have m : Mono F.μ F.μ F.α F.α H H' := Fr.mono (F := F) (st' := F.st) nF
  have kp : ∀ a o, H a = some o → NT o → H' a = some o := fun a o h q => n.keep a o h (by simp) q
  refine ⟨r.ent.trans nF, fun a h => ⟨(r.ow0 a h).1, n.there a (r.ow0 a h).2.1, (r.ow0 a h).2.2⟩, fun a h => n.there a (r.al0 a h), r.nd, r.nda, fun a h => ⟨n.there a (r.nu a h).1, (r.nu a h).2⟩, t, r.alen, fun k o h => ?_, r.len, r.wlen, fun i s h => ?_, r.me⟩
  · obtain ⟨a, ha, q⟩ := r.objs k o h
    refine ⟨a, ha, ?_⟩
    cases o with
    | lst l =>
      obtain ⟨vs, h1, h2⟩ := q
      exact ⟨vs, kp _ _ h1 (fun _ => nofun), m.ats _ _ h2⟩
    | ins c fs =>
      obtain ⟨dx, vs, h1, hl, h2⟩ := q
      exact ⟨dx, vs, kp _ _ h1 (fun _ => nofun), hl, m.ats _ _ h2⟩
  · have q := r.slots i s h
    cases s with
    | no => trivial
    | val d =>
      obtain ⟨v, h2, h3⟩ := q
      exact ⟨v, h2, m.at _ _ h3⟩
    | own l =>
      obtain ⟨a, vs, h1, h2, h3, h4⟩ := q
      exact ⟨a, vs, h1, h2, kp _ _ h3 (fun _ => nofun), m.ats _ _ h4⟩
    | ownI c fs =>
      obtain ⟨a, dx, vs, h1, h2, h3, h4, h5⟩ := q
      exact ⟨a, dx, vs, h1, h2, kp _ _ h3 (fun _ => nofun), h4, m.ats _ _ h5⟩
    | ownD ks vs =>
      obtain ⟨a, kvs, h1, h2, h3, h4, h5⟩ := q
      exact ⟨a, kvs, h1, h2, kp _ _ h3 (fun _ => nofun), h4, m.ats _ _ h5⟩
theorem SlR.mono {μ μ' : Addr → Prop} {α α' : List Addr} {w : Option Addr} {x : Option V} {s : Slot} (m : Mono μ μ' α α' H H') (k : ∀ a o, w = some a → H a = some o → NT o → H' a = some o) (q : SlR g μ α H w x s) : SlR g μ' α' H' w x s := by
  cases s with
  | no => trivial
  | val d =>
    obtain ⟨v, h2, h3⟩ := q
    exact ⟨v, h2, m.at _ _ h3⟩
  | own l =>
    obtain ⟨a, vs, h1, h2, h3, h4⟩ := q
    exact ⟨a, vs, h1, h2, k _ _ h1 h3 (fun _ => nofun), m.ats _ _ h4⟩
  | ownI c fs =>
    obtain ⟨a, dx, vs, h1, h2, h3, h4, h5⟩ := q
    exact ⟨a, dx, vs, h1, h2, k _ _ h1 h3 (fun _ => nofun), h4, m.ats _ _ h5⟩
  | ownD ks vs =>
    obtain ⟨a, kvs, h1, h2, h3, h4, h5⟩ := q
    exact ⟨a, kvs, h1, h2, k _ _ h1 h3 (fun _ => nofun), h4, m.ats _ _ h5⟩
theorem join_mem {ω : List (Option Addr)} {i : Nat} {a : Addr} (h : ω[i]?.join = some a) : some a ∈ ω := by
  cases e : ω[i]? with
  | none => rw [e] at h; cases h
  | some o =>
    rw [e] at h
    have : o = some a := h
    subst this
    exact List.mem_of_getElem? e
/-- back in the frame, behind a block that had a frame of its own -/
theorem Rep.back {F' : Fr} {σ' : L2.St} (r : Rep g F σ H) (n : Nx F.α H F'.α H') (r' : Rep g F' σ' H') (e : ∀ a, (F.to F'.α F'.st).μ a → F'.μ a) : Rep g (F.to F'.α F'.st) σ H' := by
  have m : Mono F.μ (F.to F'.α F'.st).μ F.α F'.α H H' := Fr.mono n
  have m' : Mono F'.μ (F.to F'.α F'.st).μ F'.α F'.α H' H' := ⟨fun _ _ h _ _ => h, fun a _ z => e a z, fun _ _ h => h⟩
  have na : ∀ a, Ob H a → a ∉ F.α → a ∉ F'.α := fun a h h' z => by
    obtain ⟨β, e, nb⟩ := n.pre
    rw [e] at z
    rcases List.mem_append.mp z with q | q
    · exact h' q
    · exact nb a q h
  refine ⟨r.ent.trans n, fun a h => ⟨(r.ow0 a h).1, n.there a (r.ow0 a h).2.1, na a (r.ow0 a h).2.1 (r.ow0 a h).2.2⟩, r'.al0, r.nd, r'.nda, fun a h => ⟨n.there a (r.nu a h).1, na a (r.nu a h).1 (r.nu a h).2.1, (r.nu a h).2.2⟩, r'.tabs, r'.alen, fun k o h => ?_, r.len, r.wlen, fun i s h => ?_, r.me⟩
  · obtain ⟨a, ha, q⟩ := r'.objs k o h
    refine ⟨a, ha, ?_⟩
    cases o with
    | lst l =>
      obtain ⟨vs, h1, h2⟩ := q
      exact ⟨vs, h1, m'.ats _ _ h2⟩
    | ins c fs =>
      obtain ⟨dx, vs, h1, hl, h2⟩ := q
      exact ⟨dx, vs, h1, hl, m'.ats _ _ h2⟩
  · exact (r.slots i s h).mono m fun a o hw ho t => n.keep a o ho (r.ow0 a (join_mem hw)).2.2 t
theorem nx_new {p : Addr} {o : HO} (h : H p = none) : Nx [] H [] (upd H p o) := Nx.new h
theorem Rep.new (r : Rep g F σ H) {p : Addr} {o : HO} (h : H p = none) : Rep g F σ (upd H p o) :=
  r.later (nx_new h) (r.tabs.ext fun b u e => by rw [upd_ne (ne_of_none e h)]; exact e)
theorem Rep.atNew (r : Rep g F σ H) {p : Addr} {o : HO} (h : H p = none) {d : D} {v : V} (a : At g F.μ F.α H d v) : At g F.μ F.α (upd H p o) d v :=
  (Fr.mono (F := F) (st' := F.st) (Nx.new (o := o) h)).at d v a
theorem Rep.atsNew (r : Rep g F σ H) {p : Addr} {o : HO} (h : H p = none) {d : List D} {v : List V} (a : Ats g F.μ F.α H d v) : Ats g F.μ F.α (upd H p o) d v :=
  (Fr.mono (F := F) (st' := F.st) (Nx.new (o := o) h)).ats d v a
/-- a new tuple, a new list -/
theorem Rep.newTup (r : Rep g F σ H) {p : Addr} (h : H p = none) {l : List D} {vs : List V} (a : Ats g F.μ F.α H l vs) : At g F.μ F.α (upd H p (.tup vs)) (.tup l) (.ref p) :=
  ⟨p, vs, rfl, ⟨upd_same, r.new_mu h⟩, r.atsNew h a⟩
theorem Rep.newLst (r : Rep g F σ H) {p : Addr} (h : H p = none) {l : List D} {vs : List V} (a : Ats g F.μ F.α H l vs) : At g F.μ F.α (upd H p (.lst vs)) (.lst l) (.ref p) :=
  ⟨p, vs, rfl, ⟨upd_same, r.new_mu h⟩, r.atsNew h a⟩
end
end Mini
end
section
set_option Elab.async false
set_option linter.all false
set_option maxRecDepth 100000
set_option maxHeartbeats 2000000
/-! # Mini: the operations by values, over the hand layer -/
namespace Mini
open PySem L2 PySem.Spec PyProof.Rows

/-! ### plain data are the library's data -/
mutual
def D.py : D → PyData
  | .non => .none
  | .bl b => .bool b
  | .int i => .int i
  | .str s => .str s
  | .lst l => .list (D.pys l)
  | .tup l => .tuple (D.pys l)
  | .scr _ => .none
  | .fn _ => .none
  | .ins _ _ => .none
  | .ptr _ => .none
  | .dic _ _ => .none
def D.pys : List D → List PyData
  | [] => []
  | d :: ds => D.py d :: D.pys ds
end
mutual
theorem py_lay : ∀ d : D, d.plain = true → (D.py d).canLay0 = true
  | .non, _ => rfl
  | .bl _, _ => rfl
  | .int _, _ => rfl
  | .str s, h => by simpa [D.py, PyData.canLay0, D.plain, strOk, PyData.strOk] using h
  | .lst l, h => by simp only [D.py, PyData.canLay0]; exact pys_lay l (by simpa [D.plain] using h)
  | .tup l, h => by simp only [D.py, PyData.canLay0]; exact pys_lay l (by simpa [D.plain] using h)
  | .scr _, h => by simp [D.plain] at h
  | .fn _, h => by simp [D.plain] at h
  | .ins _ _, h => by simp [D.plain] at h
  | .ptr _, h => by simp [D.plain] at h
  | .dic _ _, h => by simp [D.plain] at h
theorem pys_lay : ∀ l : List D, D.plains l = true → PyData.canLayAll0 (D.pys l) = true
  | [], _ => by simp [D.pys, PyData.canLayAll0]
  | d :: ds, h => by
    have h' : d.plain = true ∧ D.plains ds = true := by simpa [D.plains] using h
    simp only [D.pys, PyData.canLayAll0, py_lay d h'.1, pys_lay ds h'.2, Bool.and_self]
end
mutual
theorem py_depth : ∀ d : D, (D.py d).depth = d.depth
  | .non => rfl
  | .bl _ => rfl
  | .int _ => rfl
  | .str _ => rfl
  | .lst l => by simp only [D.py, PyData.depth, D.depth, pys_depth l]
  | .tup l => by simp only [D.py, PyData.depth, D.depth, pys_depth l]
  | .scr _ => rfl
  | .fn _ => rfl
  | .ins _ _ => rfl
  | .ptr _ => rfl
  | .dic _ _ => rfl
theorem pys_depth : ∀ l : List D, PyData.depthAll (D.pys l) = D.depths l
  | [] => rfl
  | d :: ds => by simp only [D.pys, PyData.depthAll, D.depths, py_depth d, pys_depth ds]
end
mutual
theorem py_eqv : ∀ a b : D, a.plain = true → b.plain = true → PyData.eqv (D.py a) (D.py b) = D.eqv a b
  | .lst xs, b, h, h' => by
    cases b with
    | lst ys =>
      simp only [D.py, PyData.eqv, D.eqv]
      exact pys_eqv xs ys (by simpa [D.plain] using h) (by simpa [D.plain] using h')
    | _ => first | rfl | simp [D.plain] at h'
  | .tup xs, b, h, h' => by
    cases b with
    | tup ys =>
      simp only [D.py, PyData.eqv, D.eqv]
      exact pys_eqv xs ys (by simpa [D.plain] using h) (by simpa [D.plain] using h')
    | _ => first | rfl | simp [D.plain] at h'
  | .non, b, h, h' => by cases b <;> first | rfl | simp [D.plain] at h'
  | .bl _, b, h, h' => by cases b <;> first | rfl | simp [D.plain] at h'
  | .int _, b, h, h' => by cases b <;> first | rfl | simp [D.plain] at h'
  | .str _, b, h, h' => by cases b <;> first | rfl | simp [D.plain] at h'
  | .scr _, _, h, _ => by simp [D.plain] at h
  | .fn _, _, h, _ => by simp [D.plain] at h
  | .ins _ _, _, h, _ => by simp [D.plain] at h
  | .ptr _, _, h, _ => by simp [D.plain] at h
  | .dic _ _, _, h, _ => by simp [D.plain] at h
theorem pys_eqv : ∀ a b : List D, D.plains a = true → D.plains b = true → PyData.eqvAll (D.pys a) (D.pys b) = D.eqvs a b
  | [], [], _, _ => rfl
  | [], _ :: _, _, _ => rfl
  | _ :: _, [], _, _ => rfl
  | a :: as, b :: bs, h, h' => by
    have h1 : a.plain = true ∧ D.plains as = true := by simpa [D.plains] using h
    have h2 : b.plain = true ∧ D.plains bs = true := by simpa [D.plains] using h'
    simp only [D.pys, PyData.eqvAll, D.eqvs, py_eqv a b h1.1 h2.1, pys_eqv as bs h1.2 h2.2]
end
theorem pys_map : ∀ l : List D, D.pys l = l.map D.py
  | [] => rfl
  | d :: ds => by simp only [D.pys, List.map_cons, pys_map ds]

section
variable {g : G} {μ : Addr → Prop} {α : List Addr} {H : Hp}
mutual
theorem At.dp {K : PySem.W.Frag} : ∀ (d : D) (v : V), d.plain = true → At g μ α H d v → Dp K H v d.py
  | .non, _, _, h => by rw [show _ = V.non from h]; exact .non
  | .bl b, _, _, h => by rw [show _ = V.bl b from h]; exact .bl b
  | .int i, _, _, h => by rw [show _ = V.int i from h]; exact .int i
  | .str s, _, _, h => by rw [show _ = V.str s from h]; exact .str s
  | .lst l, _, p, ⟨a, vs, e, h, hl⟩ => by subst e; exact .lst (SqL.of h.1) (Ats.dp l vs (by simpa [D.plain] using p) hl)
  | .tup l, _, p, ⟨a, vs, e, h, hl⟩ => by subst e; exact .tup (SqT.of h.1) (Ats.dp l vs (by simpa [D.plain] using p) hl)
  | .scr _, _, p, _ => by simp [D.plain] at p
  | .fn _, _, p, _ => by simp [D.plain] at p
  | .ins _ _, _, p, _ => by simp [D.plain] at p
  | .ptr _, _, p, _ => by simp [D.plain] at p
  | .dic _ _, _, p, _ => by simp [D.plain] at p
theorem Ats.dp {K : PySem.W.Frag} : ∀ (l : List D) (vs : List V), D.plains l = true → Ats g μ α H l vs → DpAll K H vs (D.pys l)
  | [], _, _, h => by cases h; exact .nil
  | d :: ds, _, p, ⟨v, r, e, h1, h2⟩ => by
    subst e
    have p' : d.plain = true ∧ D.plains ds = true := by simpa [D.plains] using p
    exact .cons (At.dp d v p'.1 h1) (Ats.dp ds r p'.2 h2)
end
end

/-! ### what is read at once -/
/-- the datum, or a list (a dict) that a name of the frame holds alone -/
def AtB (g : G) (F : Fr) (H : Hp) (d : D) (v : V) : Prop :=
  At g F.μ F.α H d v ∨ ∃ a, v = .ref a ∧ some a ∈ F.ω ∧ ((∃ l vs, d = .lst l ∧ H a = some (.lst vs) ∧ Ats g F.μ F.α H l vs) ∨
    ∃ ks us kvs, d = .dic ks us ∧ H a = some (.dK kvs) ∧ ks.map keyD = kvs.map (fun p => some p.1) ∧ Ats g F.μ F.α H us (kvs.map (·.2)))
def AtsB (g : G) (F : Fr) (H : Hp) : List D → List V → Prop
  | [], vs => vs = []
  | d :: ds, vs => ∃ v r, vs = v :: r ∧ AtB g F H d v ∧ AtsB g F H ds r
section
variable {g : G} {F : Fr} {H : Hp}
theorem AtB.lst {l : List D} {v : V} (h : AtB g F H (.lst l) v) : ∃ a vs, v = .ref a ∧ H a = some (.lst vs) ∧ Ats g F.μ F.α H l vs := by
  rcases h with ⟨a, vs, e, h, hl⟩ | ⟨a, e, _, ⟨l', vs, e', h, hl⟩ | ⟨_, _, _, e', _⟩⟩
  · exact ⟨a, vs, e, h.1, hl⟩
  · cases e'
    exact ⟨a, vs, e, h, hl⟩
  · cases e'
theorem AtB.tup {l : List D} {v : V} (h : AtB g F H (.tup l) v) : ∃ a vs, v = .ref a ∧ H a = some (.tup vs) ∧ Ats g F.μ F.α H l vs ∧ ¬ F.μ a := by
  rcases h with ⟨a, vs, e, h, hl⟩ | ⟨a, e, _, ⟨l', vs, e', h, hl⟩ | ⟨_, _, _, e', _⟩⟩
  · exact ⟨a, vs, e, h.1, hl, h.2⟩
  · cases e'
  · cases e'
theorem AtB.at {d : D} {v : V} (h : AtB g F H d v) (n : ∀ l, d ≠ .lst l) (n' : ∀ l l', d ≠ .dic l l') : At g F.μ F.α H d v := by
  rcases h with h | ⟨a, e, _, ⟨l', vs, e', h, hl⟩ | ⟨_, _, _, e', _⟩⟩
  · exact h
  · exact absurd e' (n _)
  · exact absurd e' (n' _ _)
theorem AtB.int {i : Int} {v : V} (h : AtB g F H (.int i) v) : v = .int i := h.at (fun _ => nofun) (fun _ _ => nofun)
theorem AtB.bl {i : Bool} {v : V} (h : AtB g F H (.bl i) v) : v = .bl i := h.at (fun _ => nofun) (fun _ _ => nofun)
theorem AtB.non {v : V} (h : AtB g F H .non v) : v = .non := h.at (fun _ => nofun) (fun _ _ => nofun)
theorem AtB.str {s : Str} {v : V} (h : AtB g F H (.str s) v) : v = .str s := h.at (fun _ => nofun) (fun _ _ => nofun)
theorem AtB.dp {K : PySem.W.Frag} {d : D} {v : V} (p : d.plain = true) (h : AtB g F H d v) : Dp K H v d.py := by
  rcases h with h | ⟨a, e, _, ⟨l', vs, e', h, hl⟩ | ⟨_, _, _, e', _⟩⟩
  · exact h.dp _ _ p
  · subst e e'
    exact .lst (SqL.of h) (hl.dp _ _ (by simpa [D.plain] using p))
  · subst e'
    simp [D.plain] at p
theorem AtB.later {α' : List Addr} {st' : Store} {H' : Hp} {σ : L2.St} (r : Rep g F σ H) (n : Nx F.α H α' H') {d : D} {v : V} (h : AtB g F H d v) : AtB g (F.to α' st') H' d v := by
  have m := Fr.mono (F := F) (st' := st') n
  rcases h with h | ⟨a, e, w, ⟨l', vs, e', h, hl⟩ | ⟨ks, us, kvs, e', h, hk, hl⟩⟩
  · exact .inl (m.at _ _ h)
  · exact .inr ⟨a, e, w, .inl ⟨l', vs, e', n.keep _ _ h (r.ow0 a w).2.2 (fun _ => nofun), m.ats _ _ hl⟩⟩
  · exact .inr ⟨a, e, w, .inr ⟨ks, us, kvs, e', n.keep _ _ h (r.ow0 a w).2.2 (fun _ => nofun), hk, m.ats _ _ hl⟩⟩
theorem AtsB.later {α' : List Addr} {st' : Store} {H' : Hp} {σ : L2.St} (r : Rep g F σ H) (n : Nx F.α H α' H') : ∀ {ds : List D} {vs : List V}, AtsB g F H ds vs → AtsB g (F.to α' st') H' ds vs
  | [], _, h => h
  | _ :: _, _, ⟨v, rr, e, h1, h2⟩ => ⟨v, rr, e, h1.later r n, AtsB.later r n h2⟩
theorem AtsB.of : ∀ {ds : List D} {vs : List V}, Ats g F.μ F.α H ds vs → AtsB g F H ds vs
  | [], _, h => h
  | _ :: _, _, ⟨v, r, e, h1, h2⟩ => ⟨v, r, e, .inl h1, AtsB.of h2⟩
theorem AtsB.one {d : D} {vs : List V} (h : AtsB g F H [d] vs) : ∃ v, vs = [v] ∧ AtB g F H d v := by
  obtain ⟨v, r, e, h1, h2⟩ := h
  cases h2
  exact ⟨v, e, h1⟩
theorem AtsB.two {d d' : D} {vs : List V} (h : AtsB g F H [d, d'] vs) : ∃ v v', vs = [v, v'] ∧ AtB g F H d v ∧ AtB g F H d' v' := by
  obtain ⟨v, r, e, h1, h2⟩ := h
  obtain ⟨v', e', h3⟩ := AtsB.one h2
  subst e'
  exact ⟨v, v', e, h1, h3⟩
theorem AtsB.length : ∀ {ds : List D} {vs : List V}, AtsB g F H ds vs → ds.length = vs.length
  | [], _, h => by cases h; rfl
  | _ :: ds, _, ⟨v, r, e, _, h2⟩ => by rw [e]; simp [AtsB.length h2]
end

/-- what an operation may rely on, and owes -/
structure Use (g : G) (F : Fr) (H : Hp) (z : D) (Q : VK) : Prop where
  mu : ∀ p, H p = none → ¬ F.μ p
  tabs : LamX.Tabs g.T H
  q : ∀ w H', Nx [] H [] H' → LamX.Tabs g.T H' → At g F.μ F.α H' z w → Q w H'
section
variable {g : G} {F : Fr} {H : Hp} {z : D} {Q : VK}
theorem Use.here (u : Use g F H z Q) {w : V} (h : At g F.μ F.α H z w) : Q w H := u.q w H (Nx.refl _ _) u.tabs h
theorem Use.newTup {l : List D} (u : Use g F H (.tup l) Q) {vs : List V} (h : Ats g F.μ F.α H l vs) {p : Addr} (hp : H p = none) : Q (.ref p) (upd H p (.tup vs)) :=
  u.q _ _ (Nx.new hp) (u.tabs.ext fun b o e => by rw [upd_ne (ne_of_none e hp)]; exact e)
    ⟨p, vs, rfl, ⟨upd_same, u.mu p hp⟩, (Fr.mono (F := F) (st' := F.st) (Nx.new hp)).ats _ _ h⟩
theorem Use.newLst {l : List D} (u : Use g F H (.lst l) Q) {vs : List V} (h : Ats g F.μ F.α H l vs) {p : Addr} (hp : H p = none) : Q (.ref p) (upd H p (.lst vs)) :=
  u.q _ _ (Nx.new hp) (u.tabs.ext fun b o e => by rw [upd_ne (ne_of_none e hp)]; exact e)
    ⟨p, vs, rfl, ⟨upd_same, u.mu p hp⟩, (Fr.mono (F := F) (st' := F.st) (Nx.new hp)).ats _ _ h⟩
end
def rB (g : G) (o : BOp) : R2 := fun v u H Q => ∃ (F : Fr) (x y z : D), opB o x y = some z ∧ AtB g F H x v ∧ AtB g F H y u ∧ Use g F H z Q
def rC (g : G) (o : COp) : R2 := fun v u H Q => ∃ (F : Fr) (x y : D) (b : Bool), opC o x y = some b ∧ AtB g F H x v ∧ AtB g F H y u ∧ Q (.bl b) H
def bopP : BOp → Operator
  | .add => .Add
  | .sub => .Sub
  | .mul => .Mult
  | .fdiv => .FloorDiv
  | .md => .Mod
  | .pow => .Pow
def copP : COp → CmpOp
  | .eq => .Eq
  | .ne => .NotEq
  | .lt => .Lt
  | .le => .LtE
  | .gt => .Gt
  | .ge => .GtE
  | .is => .Is
  | .isnot => .IsNot
  | .isin => .In
  | .notin => .NotIn
theorem line_big : maxLen ≤ sizeLine := by rw [sizeLine_eq]; decide
theorem catL_some {a b c : List D} (h : catL a b = some c) : c = a ++ b ∧ a.length + b.length ≤ sizeLine := by
  unfold catL at h
  split at h
  · exact ⟨(Option.some.inj h).symm, Nat.le_trans (by assumption) line_big⟩
  · cases h
theorem repL_some {a c : List D} {n : Int} (h : repL a n = some c) : c = (List.replicate n.toNat a).flatten ∧ -1000000 ≤ n ∧ n ≤ 1000000 ∧ a.length * n.toNat ≤ sizeLine := by
  unfold repL at h
  split at h
  · rename_i q
    exact ⟨(Option.some.inj h).symm, q.1, q.2.1, Nat.le_trans q.2.2 line_big⟩
  · cases h
section
variable {X : Cx} {g : G}
/-- a tuple once is itself -/
theorem tuple_mul1 (l : Addr) (items : Array Value) (n : Nat) (dd : Option Addr) (sl : Array (Option Value)) (u : Tok) :
    Meets (Builtin.«tuple.__mul__» ⟨[.ref l, .int 1 u], []⟩) (fun _ R s => s.heap.get? l = some { cls := .type "tuple", dict := dd, data := .seq items n, slots := sl } ∧ R (.ok (.ret (Value.ref l))) s) :=
  .of_wp fun prog w A R s h => by
    obtain ⟨hp, gg, d, tk, os⟩ := s
    obtain ⟨hl, h⟩ := h
    have f1 := AutoSeq1.idx_int
    have c0 : (decide ((1 : Int) < -(2 ^ 63)) || decide ((1 : Int) ≥ 2 ^ 63)) = false := by decide
    have c1 : (items.isEmpty || (1 : Int) == 1) = true := by simp
    wp_walk using wpAny_loadPart' hl
    repeat (first
      | (refine wpAny_ite_false (decide_eq_false (by rw [c0]; exact Bool.false_ne_true)) ?_; wp_walk using wpAny_loadPart' hl)
      | (refine wpAny_ite_true (decide_eq_true (by rw [c1])) ?_; wp_walk using wpAny_loadPart' hl))
    exact ⟨_, rfl, h⟩
theorem op_repT1 : OpR X (binaryOp .Mult) (fun x y H Q => ∃ l xs, x = .ref l ∧ y = .int 1 ∧ H l = some (.tup xs) ∧ xs ≠ [] ∧ Q (.ref l) H) := by
  intro pins s σ H x y v u Q I rx ry h
  obtain ⟨l, xs, rfl, rfl, hT, hne, q⟩ := h
  cases rx
  obtain ⟨t, rfl⟩ := ry
  obtain ⟨its, r, ⟨⟨cls, dd, data, sl⟩, ho, hc, n, hd⟩, hs⟩ := I.tuple (SqT.of hT)
  simp only at hc hd
  subst hc hd
  refine wpAny_binaryOp_repeat_ref (T := "tuple") (U := "int") (by decide) ⟨_, ho, rfl⟩ (fun s' => typeIs_int s' 1 t) noFill_tuple_mul F.fills_int_mul F.slot_int_rmul repeat_tuple F.slot_int_index.lookup
    (call_meets F.slot_int_rmul (typeIs_int s 1 t) F.entry_int_rmul (F.args_int_rmul_2 _ _) (int_rmul_tuple 1 t l its.toArray n dd sl)
      ⟨ho, rfl, ⟨_, ho, rfl⟩, call_meets F.slot_tuple_mul ⟨_, ho, rfl⟩ F.entry_tuple_mul (F.args_tuple_mul_2 _ _) (tuple_mul1 l its.toArray n dd sl t) ⟨ho, ?_⟩⟩)
  exact ⟨.ref l, H, I, rfl, q⟩

theorem opB_ok (o : BOp) : OpR X (binaryOp (bopP o)) (rB g o) := by
  intro pins s σ H v u vv uu Q I rv ru h
  obtain ⟨F, x, y, z, hz, hx, hy, us⟩ := h
  cases o with
  | add =>
    cases x <;> cases y <;> simp only [opB] at hz <;> try cases hz
    · rename_i i j
      exact op_add pins s σ H _ _ vv uu Q I rv ru ⟨i, j, hx.int, hy.int, us.here rfl⟩
    · rename_i a b
      split at hz <;> cases hz
      exact op_add_str pins s σ H _ _ vv uu Q I rv ru ⟨a, b, hx.str, hy.str, Nat.le_trans (by assumption) line_big, us.here rfl⟩
    · rename_i a b
      obtain ⟨c, hc, rfl⟩ := Option.map_eq_some_iff.mp hz
      obtain ⟨rfl, hl⟩ := catL_some hc
      obtain ⟨p, vs, rfl, hp, ha⟩ := hx.lst
      obtain ⟨q, ws, rfl, hq, hb⟩ := hy.lst
      exact op_cat pins s σ H _ _ vv uu Q I rv ru ⟨p, q, vs, ws, rfl, rfl, hp, hq, by rw [← ha.length, ← hb.length]; exact hl, fun r hr => us.newLst (ha.append hb) hr⟩
    · rename_i a b
      obtain ⟨c, hc, rfl⟩ := Option.map_eq_some_iff.mp hz
      obtain ⟨rfl, hl⟩ := catL_some hc
      obtain ⟨p, vs, rfl, hp, ha, np⟩ := hx.tup
      obtain ⟨q, ws, rfl, hq, hb, nq⟩ := hy.tup
      refine op_catA pins s σ H _ _ vv uu Q I rv ru ⟨p, q, vs, ws, rfl, rfl, SqT.of hp, SqT.of hq, by rw [← ha.length, ← hb.length]; exact hl, fun e => ?_, fun _ e => ?_, fun _ _ r hr => us.newTup (ha.append hb) hr⟩
      · subst e
        have e : a = [] := List.eq_nil_of_length_eq_zero (by rw [ha.length]; rfl)
        subst e
        exact us.here ⟨q, ws, rfl, ⟨hq, nq⟩, hb⟩
      · subst e
        have e : b = [] := List.eq_nil_of_length_eq_zero (by rw [hb.length]; rfl)
        subst e
        exact us.here ⟨p, vs, rfl, ⟨hp, np⟩, by rw [List.append_nil]; exact ha⟩
  | sub =>
    cases x <;> cases y <;> simp only [opB] at hz <;> try cases hz
    rename_i i j
    exact op_sub pins s σ H _ _ vv uu Q I rv ru ⟨i, j, hx.int, hy.int, us.here rfl⟩
  | mul =>
    cases x <;> cases y <;> simp only [opB] at hz <;> try cases hz
    · rename_i i j
      split at hz <;> cases hz
      rename_i c
      refine op_mul pins s σ H _ _ vv uu Q I rv ru ⟨i, j, hx.int, hy.int, ?_, us.here rfl⟩
      simp only [smallI, Bool.or_eq_true, Bool.and_eq_true, decide_eq_true_eq] at c
      exact c
    · rename_i a n
      obtain ⟨c, hc, rfl⟩ := Option.map_eq_some_iff.mp hz
      obtain ⟨rfl, h1, h2, hl⟩ := repL_some hc
      obtain ⟨p, vs, rfl, hp, ha⟩ := hx.lst
      exact op_rep pins s σ H _ _ vv uu Q I rv ru ⟨p, n, vs, rfl, hy.int, hp, by omega, by omega, by rw [← ha.length]; exact hl, fun r hr => us.newLst (ha.rep _) hr⟩
    · rename_i a n
      split at hz <;> cases hz
      rename_i c
      obtain ⟨p, vs, rfl, hp, ha, np⟩ := hx.tup
      have hne : vs ≠ [] := fun e => c.1 (List.eq_nil_of_length_eq_zero (by rw [ha.length, e]; rfl))
      by_cases h1 : n = 1
      · subst h1
        refine op_repT1 pins s σ H _ _ vv uu Q I rv ru ⟨p, vs, rfl, hy.int, hp, hne, us.here ?_⟩
        exact ⟨p, vs, rfl, ⟨hp, np⟩, by simpa using ha⟩
      · exact op_repT pins s σ H _ _ vv uu Q I rv ru ⟨p, n, vs, rfl, hy.int, SqT.of hp, hne, by omega, by omega, by rw [← ha.length]; omega, fun r hr => us.newTup (ha.rep _) hr⟩
  | fdiv =>
    cases x <;> cases y <;> simp only [opB] at hz <;> try cases hz
    rename_i i j
    split at hz <;> cases hz
    exact op_fdivN pins s σ H _ _ vv uu Q I rv ru ⟨i, j, hx.int, hy.int, by assumption, us.here rfl⟩
  | md =>
    cases x <;> cases y <;> simp only [opB] at hz <;> try cases hz
    rename_i i j
    split at hz <;> cases hz
    exact op_modN pins s σ H _ _ vv uu Q I rv ru ⟨i, j, hx.int, hy.int, by assumption, us.here rfl⟩
  | pow =>
    cases x <;> cases y <;> simp only [opB] at hz <;> try cases hz
    rename_i i j
    split at hz <;> cases hz
    rename_i c
    exact op_pow pins s σ H _ _ vv uu Q I rv ru ⟨i, j, hx.int, hy.int, ⟨c.1, by omega, c.2.2⟩, us.here rfl⟩

/-- = of plain data -/
theorem eqD_reads {a b : D} {v u : V} {vv uu : Value} {F : Fr} {pins : List (Addr × Obj)} {s : Shared} {σ : L2.St} {H : Hp} {c : Bool} (I : Inv X pins σ H s) (hr : X.A.units + 64 < cLine) (e : eqD a b = some c) (ha : AtB g F H a v) (hb : AtB g F H b u) (rv : RelV v vv) (ru : RelV u uu) :
    ∃ as bs, Reads s.heap vv a.py as ∧ Reads s.heap uu b.py bs ∧ a.py.canLay0 = true ∧ b.py.canLay0 = true ∧ X.A.units + min a.py.depth b.py.depth < cLine ∧ PyData.eqv a.py b.py = c := by
  unfold eqD at e
  split at e
  · rename_i q
    simp only [Bool.and_eq_true, decide_eq_true_eq] at q
    obtain ⟨⟨p1, p2⟩, p3⟩ := q
    obtain ⟨as, r1⟩ := Dp.reads I _ v vv (ha.dp p1) rv
    obtain ⟨bs, r2⟩ := Dp.reads I _ u uu (hb.dp p2) ru
    refine ⟨as, bs, r1, r2, py_lay _ p1, py_lay _ p2, ?_, ?_⟩
    · rw [py_depth, py_depth]
      omega
    · rw [py_eqv _ _ p1 p2]
      exact Option.some.inj e
  · cases e
theorem op_eqX (hu : X.A.units + 64 < cLine) : OpR X (compareOp .Eq) (rC g .eq) := by
  intro pins s σ H v u vv uu Q I rv ru ⟨F, x, y, b, hz, hx, hy, q⟩
  obtain ⟨as, bs, r1, r2, l1, l2, d, e⟩ := eqD_reads I hu hz hx hy rv ru
  exact SeqAt.compareEq_reads r1 r2 l1 l2 d ⟨.bl _, H, I, rfl, by rw [e]; exact q⟩
theorem op_neX (hu : X.A.units + 64 < cLine) : OpR X (compareOp .NotEq) (rC g .ne) := by
  intro pins s σ H v u vv uu Q I rv ru ⟨F, x, y, b, hz, hx, hy, q⟩
  obtain ⟨c, hc, rfl⟩ := Option.map_eq_some_iff.mp hz
  obtain ⟨as, bs, r1, r2, l1, l2, d, e⟩ := eqD_reads I hu hc hx hy rv ru
  exact SeqAt.compareNe_reads r1 r2 l1 l2 d ⟨.bl _, H, I, rfl, by rw [e]; exact q⟩

/-- in, of plain data -/
theorem pys_any (a : D) : ∀ l : List D, a.plain = true → D.plains l = true → ((D.pys l).any fun z => PyData.eqv z a.py) = l.any fun z => z.eqv a
  | [], _, _ => rfl
  | d :: ds, h, p => by
    have p' : d.plain = true ∧ D.plains ds = true := by simpa [D.plains] using p
    simp only [D.pys, List.any_cons, py_eqv d a p'.1 h, pys_any a ds h p'.2]
theorem inD_reads {a : D} {l : List D} {v u : V} {vv uu : Value} {F : Fr} {pins : List (Addr × Obj)} {s : Shared} {σ : L2.St} {H : Hp} {c : Bool} (I : Inv X pins σ H s) (hr : X.A.units + 65 < cLine) (e : inD a l = some c) (ha : AtB g F H a v) (rv : RelV v vv) (ru : RelV u uu) {t : D}
    (ht : t = .lst l ∨ t = .tup l) (hb : AtB g F H t u) :
    ∃ as bs, Reads s.heap vv a.py as ∧ Reads s.heap uu t.py bs ∧ a.py.canLay0 = true ∧ t.py.canLay0 = true ∧ X.A.units + 1 + min (PyData.depthAll (D.pys l)) a.py.depth < cLine ∧ ((D.pys l).any fun z => PyData.eqv z a.py) = c := by
  unfold inD at e
  split at e
  · rename_i q
    simp only [Bool.and_eq_true, decide_eq_true_eq] at q
    obtain ⟨⟨p1, p2⟩, p3⟩ := q
    have pt : t.plain = true := by rcases ht with rfl | rfl <;> simpa [D.plain] using p2
    obtain ⟨as, r1⟩ := Dp.reads I _ v vv (ha.dp p1) rv
    obtain ⟨bs, r2⟩ := Dp.reads I _ u uu (hb.dp pt) ru
    refine ⟨as, bs, r1, r2, py_lay _ p1, py_lay _ pt, ?_, ?_⟩
    · rw [py_depth, pys_depth]
      omega
    · rw [pys_any a l p1 p2]
      exact Option.some.inj e
  · cases e
theorem op_inX (hu : X.A.units + 65 < cLine) : OpR X (compareOp .In) (rC g .isin) := by
  intro pins s σ H v u vv uu Q I rv ru ⟨F, x, y, b, hz, hx, hy, q⟩
  cases y <;> simp only [opC] at hz <;> try cases hz
  · obtain ⟨as, bs, r1, r2, l1, l2, d, e⟩ := inD_reads I hu hz hx rv ru (.inl rfl) hy
    exact SeqAt.in_list_reads r2 r1 l2 l1 d ⟨.bl _, H, I, rfl, by rw [e]; exact q⟩
  · obtain ⟨as, bs, r1, r2, l1, l2, d, e⟩ := inD_reads I hu hz hx rv ru (.inr rfl) hy
    exact SeqAt.in_tuple_reads r2 r1 l2 l1 d ⟨.bl _, H, I, rfl, by rw [e]; exact q⟩
theorem op_notInX (hu : X.A.units + 65 < cLine) : OpR X (compareOp .NotIn) (rC g .notin) := by
  intro pins s σ H v u vv uu Q I rv ru ⟨F, x, y, b, hz, hx, hy, q⟩
  cases y <;> simp only [opC] at hz <;> try cases hz
  · obtain ⟨c, hc, rfl⟩ := Option.map_eq_some_iff.mp hz
    obtain ⟨as, bs, r1, r2, l1, l2, d, e⟩ := inD_reads I hu hc hx rv ru (.inl rfl) hy
    exact SeqAt.notIn_list_reads r2 r1 l2 l1 d ⟨.bl _, H, I, rfl, by rw [e]; exact q⟩
  · obtain ⟨c, hc, rfl⟩ := Option.map_eq_some_iff.mp hz
    obtain ⟨as, bs, r1, r2, l1, l2, d, e⟩ := inD_reads I hu hc hx rv ru (.inr rfl) hy
    exact SeqAt.notIn_tuple_reads r2 r1 l2 l1 d ⟨.bl _, H, I, rfl, by rw [e]; exact q⟩
theorem AtB.isNon {F : Fr} {H : Hp} {x : D} {v : V} (h : AtB g F H x v) {b : Bool} (e : isD x .non = some b) : decide (v = V.non) = b := by
  have nr : ∀ a : Addr, decide (V.ref a = V.non) = false := fun a => decide_eq_false nofun
  cases x <;> simp only [isD] at e <;> try cases e
  · rw [h.non]; rfl
  · rw [h.bl]; rfl
  · rw [h.int]; rfl
  · rw [h.str]; rfl
  · obtain ⟨a, _, rfl, _⟩ := h.lst; exact nr a
  · obtain ⟨a, _, rfl, _⟩ := h.tup; exact nr a
  · obtain ⟨a, _, _, rfl, _⟩ := h.at (fun _ => nofun) (fun _ _ => nofun); exact nr a
  · obtain ⟨a, rfl, _⟩ := h.at (fun _ => nofun) (fun _ _ => nofun); exact nr a
  · rcases h with ⟨a, _, rfl, _⟩ | ⟨a, rfl, _⟩ <;> exact nr a
theorem op_isX : OpR X (compareOp .Is) (rC g .is) := by
  intro pins s σ H v u vv uu Q I rv ru ⟨F, x, y, b, hz, hx, hy, q⟩
  have hz : isD x y = some b := hz
  cases y with
  | non =>
    refine op_isN pins s σ H _ _ vv uu Q I rv ru ⟨hy.non, ?_⟩
    rw [hx.isNon hz]
    exact q
  | bl c =>
    cases x <;> simp only [isD] at hz <;> try cases hz
    rename_i a
    refine op_is_bl pins s σ H _ _ vv uu Q I rv ru ⟨a, c, hx.bl, hy.bl, ?_⟩
    rw [← Bool.beq_eq_decide_eq]
    exact q
  | _ => cases x <;> simp [isD] at hz
theorem op_isnotX : OpR X (compareOp .IsNot) (rC g .isnot) := by
  intro pins s σ H v u vv uu Q I rv ru ⟨F, x, y, b, hz0, hx, hy, q⟩
  have hz : (isD x y).map (!·) = some b := hz0
  clear hz0
  obtain ⟨b', hq, rfl⟩ := Option.map_eq_some_iff.mp hz
  clear hz
  cases y with
  | non =>
    refine op_notN pins s σ H _ _ vv uu Q I rv ru ⟨hy.non, ?_⟩
    rw [hx.isNon hq]
    exact q
  | bl c =>
    cases x <;> simp only [isD] at hq <;> try cases hq
    rename_i a
    refine op_isnot_bl pins s σ H _ _ vv uu Q I rv ru ⟨a, c, hx.bl, hy.bl, ?_⟩
    rw [← Bool.beq_eq_decide_eq]
    exact q
  | _ => cases x <;> simp [isD] at hq
theorem opC_ok (hu : X.A.units + 65 < cLine) (o : COp) : OpR X (compareOp (copP o)) (rC g o) := by
  cases o with
  | eq => exact op_eqX (by omega)
  | ne => exact op_neX (by omega)
  | isin => exact op_inX hu
  | notin => exact op_notInX hu
  | is => exact op_isX
  | isnot => exact op_isnotX
  | lt =>
    intro pins s σ H v u vv uu Q I rv ru ⟨F, x, y, b, hz, hx, hy, q⟩
    cases x <;> cases y <;> simp only [opC] at hz <;> try cases hz
    exact op_lt pins s σ H _ _ vv uu Q I rv ru ⟨_, _, hx.int, hy.int, q⟩
  | le =>
    intro pins s σ H v u vv uu Q I rv ru ⟨F, x, y, b, hz, hx, hy, q⟩
    cases x <;> cases y <;> simp only [opC] at hz <;> try cases hz
    exact op_le pins s σ H _ _ vv uu Q I rv ru ⟨_, _, hx.int, hy.int, q⟩
  | gt =>
    intro pins s σ H v u vv uu Q I rv ru ⟨F, x, y, b, hz, hx, hy, q⟩
    cases x <;> cases y <;> simp only [opC] at hz <;> try cases hz
    exact op_gt pins s σ H _ _ vv uu Q I rv ru ⟨_, _, hx.int, hy.int, q⟩
  | ge =>
    intro pins s σ H v u vv uu Q I rv ru ⟨F, x, y, b, hz, hx, hy, q⟩
    cases x <;> cases y <;> simp only [opC] at hz <;> try cases hz
    exact op_ge pins s σ H _ _ vv uu Q I rv ru ⟨_, _, hx.int, hy.int, q⟩
end
end Mini
end
section
set_option Elab.async false
set_option linter.all false
set_option maxRecDepth 100000
set_option maxHeartbeats 2000000
/-! # Mini: built-in functions by values -/
namespace Mini
open PySem L2 PySem.Spec PyProof.Rows

/-! ### the order of data -/
mutual
theorem py_alike : ∀ a b : D, D.shape a b = true → PySem.W.alike a.py b.py = true
  | .int _, b, h => by cases b <;> first | rfl | simp [D.shape] at h
  | .tup xs, b, h => by
    cases b with
    | tup ys =>
      simp only [D.py, PySem.W.alike]
      exact pys_alike xs ys (by simpa [D.shape] using h)
    | _ => simp [D.shape] at h
  | .non, b, h => by simp [D.shape] at h
  | .bl _, b, h => by simp [D.shape] at h
  | .str _, b, h => by simp [D.shape] at h
  | .lst _, b, h => by simp [D.shape] at h
  | .scr _, b, h => by simp [D.shape] at h
  | .fn _, b, h => by simp [D.shape] at h
  | .ins _ _, b, h => by simp [D.shape] at h
  | .ptr _, b, h => by simp [D.shape] at h
  | .dic _ _, b, h => by simp [D.shape] at h
theorem pys_alike : ∀ a b : List D, D.shapes a b = true → PySem.W.alikeAll (D.pys a) (D.pys b) = true
  | [], _, _ => by simp [D.pys, PySem.W.alikeAll]
  | _ :: _, [], _ => by simp [D.pys, PySem.W.alikeAll]
  | a :: as, b :: bs, h => by
    have h1 : D.shape a b = true ∧ D.shapes as bs = true := by simpa [D.shapes] using h
    simp only [D.pys, PySem.W.alikeAll, py_alike a b h1.1, pys_alike as bs h1.2, Bool.and_self]
end
mutual
theorem eqv_comm : ∀ a b : D, D.eqv a b = D.eqv b a
  | .lst xs, b => by
    cases b with
    | lst ys => simp only [D.eqv]; exact eqvs_comm xs ys
    | _ => rfl
  | .tup xs, b => by
    cases b with
    | tup ys => simp only [D.eqv]; exact eqvs_comm xs ys
    | _ => rfl
  | .non, b => by cases b <;> rfl
  | .bl x, b => by
    cases b with
    | bl y => simp only [D.eqv]; exact Bool.beq_comm
    | int y => simp only [D.eqv]; exact Bool.beq_comm
    | _ => rfl
  | .int x, b => by
    cases b with
    | bl y => simp only [D.eqv]; exact Bool.beq_comm
    | int y => simp only [D.eqv]; exact Bool.beq_comm
    | _ => rfl
  | .str x, b => by
    cases b with
    | str y => simp only [D.eqv]; exact Bool.beq_comm
    | _ => rfl
  | .scr _, b => by cases b <;> rfl
  | .fn _, b => by cases b <;> rfl
  | .ins _ _, b => by cases b <;> rfl
  | .ptr _, b => by cases b <;> rfl
  | .dic _ _, b => by cases b <;> rfl
theorem eqvs_comm : ∀ a b : List D, D.eqvs a b = D.eqvs b a
  | [], [] => rfl
  | [], _ :: _ => rfl
  | _ :: _, [] => rfl
  | a :: as, b :: bs => by simp only [D.eqvs, eqv_comm a b, eqvs_comm as bs]
end
theorem toks0 (l : List PyData) : PyProof.Rows.lexLt PyProof.Rows.itemOrd (PySem.W.keyToksAll l) (PySem.W.keyToksAll []) = false := by
  cases l with
  | nil => rfl
  | cons x xs => rfl
theorem toks1 (x : PyData) (xs : List PyData) : PyProof.Rows.lexLt PyProof.Rows.itemOrd (PySem.W.keyToksAll []) (PySem.W.keyToksAll (x :: xs)) = true := by rfl
mutual
theorem le_data : ∀ a b : D, a.plain = true → b.plain = true → D.shape a b = true → D.shape b a = true → (!PySem.W.dataLt b.py a.py) = D.le a b
  | .int i, b, _, _, h, _ => by
    cases b <;> try (simp [D.shape] at h; done)
    rename_i j _ _
    simp only [D.py, D.le, PySem.W.dataLt_int]
    exact PySem.W.not_lt_int i j
  | .tup xs, b, p, p', h, h' => by
    cases b with
    | tup ys =>
      simp only [D.py, D.le, PySem.W.dataLt_tuple]
      exact les_data xs ys (by simpa [D.plain] using p) (by simpa [D.plain] using p') (by simpa [D.shape] using h) (by simpa [D.shape] using h')
    | _ => simp [D.shape] at h
  | .non, b, _, _, h, _ => by simp [D.shape] at h
  | .bl _, b, _, _, h, _ => by simp [D.shape] at h
  | .str _, b, _, _, h, _ => by simp [D.shape] at h
  | .lst _, b, _, _, h, _ => by simp [D.shape] at h
  | .scr _, b, _, _, h, _ => by simp [D.shape] at h
  | .fn _, b, _, _, h, _ => by simp [D.shape] at h
  | .ins _ _, b, _, _, h, _ => by simp [D.shape] at h
  | .ptr _, b, _, _, h, _ => by simp [D.shape] at h
  | .dic _ _, b, _, _, h, _ => by simp [D.shape] at h
theorem les_data : ∀ a b : List D, D.plains a = true → D.plains b = true → D.shapes a b = true → D.shapes b a = true → (!PyProof.Rows.lexLt PyProof.Rows.itemOrd (PySem.W.keyToksAll (D.pys b)) (PySem.W.keyToksAll (D.pys a))) = D.les a b
  | [], b, _, _, _, _ => by
    show (!PyProof.Rows.lexLt PyProof.Rows.itemOrd (PySem.W.keyToksAll (D.pys b)) (PySem.W.keyToksAll [])) = _
    rw [toks0]
    cases b <;> rfl
  | x :: xs, [], _, _, _, _ => by
    show (!PyProof.Rows.lexLt PyProof.Rows.itemOrd (PySem.W.keyToksAll []) (PySem.W.keyToksAll (D.py x :: D.pys xs))) = _
    rw [toks1]
    rfl
  | x :: xs, y :: ys, p, p', h, h' => by
    have q : x.plain = true ∧ D.plains xs = true := by simpa [D.plains] using p
    have q' : y.plain = true ∧ D.plains ys = true := by simpa [D.plains] using p'
    have r : D.shape x y = true ∧ D.shapes xs ys = true := by simpa [D.shapes] using h
    have r' : D.shape y x = true ∧ D.shapes ys xs = true := by simpa [D.shapes] using h'
    show (!PyProof.Rows.lexLt PyProof.Rows.itemOrd (PySem.W.keyToksAll (D.py y :: D.pys ys)) (PySem.W.keyToksAll (D.py x :: D.pys xs))) = _
    rw [PySem.W.dataLt_cons (py_alike y x r'.1), py_eqv y x q'.1 q.1, eqv_comm y x]
    simp only [D.les]
    cases e : D.eqv x y with
    | true =>
      rw [if_pos rfl, if_pos rfl]
      exact les_data xs ys q.2 q'.2 r.2 r'.2
    | false =>
      rw [if_neg Bool.false_ne_true, if_neg Bool.false_ne_true]
      exact le_data x y q.1 q'.1 r.1 r'.1
end
theorem plains_mem : ∀ {l : List D}, D.plains l = true → ∀ d ∈ l, d.plain = true
  | d :: ds, h, e, he => by
    have h' : d.plain = true ∧ D.plains ds = true := by simpa [D.plains] using h
    rcases List.mem_cons.mp he with rfl | he
    · exact h'.1
    · exact plains_mem h'.2 e he
theorem depths_mem : ∀ {l : List D}, ∀ d ∈ l, d.depth ≤ D.depths l
  | d :: ds, e, he => by
    simp only [D.depths]
    rcases List.mem_cons.mp he with rfl | he
    · exact Nat.le_max_left _ _
    · exact Nat.le_trans (depths_mem e he) (Nat.le_max_right _ _)

theorem Ats.each {g : G} {μ : Addr → Prop} {α : List Addr} {H : Hp} {ds : List D} : ∀ {vs : List V} {us : List Value}, Ats g μ α H ds vs → Vals vs us → PySem.W.EachIs (fun u d => ∃ v, RelV v u ∧ At g μ α H d v) us ds := by
  induction ds with
  | nil =>
    intro vs us h r
    cases h
    cases r
    exact .nil
  | cons d ds ih =>
    intro vs us h r
    obtain ⟨v, rr, e, h1, h2⟩ := h
    subst e
    cases r with
    | cons r1 r2 => exact .cons ⟨v, r1, h1⟩ (ih h2 r2)
theorem each_ats {g : G} {μ : Addr → Prop} {α : List Addr} {H : Hp} {ds : List D} : ∀ {us : List Value}, PySem.W.EachIs (fun u d => ∃ v, RelV v u ∧ At g μ α H d v) us ds → ∃ vs, Vals vs us ∧ Ats g μ α H ds vs := by
  induction ds with
  | nil =>
    intro us h
    cases h
    exact ⟨[], .nil, rfl⟩
  | cons d ds ih =>
    intro us h
    cases h with
    | cons h1 h2 =>
      obtain ⟨v, r, a⟩ := h1
      obtain ⟨vs, rs, as⟩ := ih h2
      exact ⟨v :: vs, .cons r rs, v, vs, rfl, a, as⟩
theorem each_reads {X : Cx} {pins : List (Addr × Obj)} {s : Shared} {σ : L2.St} {g : G} {μ : Addr → Prop} {α : List Addr} {H : Hp} (I : Inv X pins σ H s) {ds : List D} : ∀ {us : List Value}, D.plains ds = true → PySem.W.EachIs (fun u d => ∃ v, RelV v u ∧ At g μ α H d v) us ds →
    PySem.W.EachIs (fun u d => ∃ as, Reads s.heap u (D.py d) as) us ds := by
  induction ds with
  | nil =>
    intro us _ h
    cases h
    exact .nil
  | cons d ds ih =>
    intro us p h
    have p' : d.plain = true ∧ D.plains ds = true := by simpa [D.plains] using p
    cases h with
    | cons h1 h2 =>
      obtain ⟨v, r1, a1⟩ := h1
      exact .cons (Dp.reads I _ v _ (a1.dp _ _ p'.1) r1) (ih p'.2 h2)
section
variable {X : Cx} {g : G}
/-- sorted(xs) -/
theorem call_sortedX (hu : X.A.units + 64 < cLine) : CallR X (.builtin "sorted") (fun vs H Q => ∃ (F : Fr) (l l' : List D), sortD l = some l' ∧ AtsB g F H [.lst l] vs ∧ Use g F H (.lst l') Q) := by
  intro pins s σ H vs us Q I r ⟨F, l, l', hs, ha, u⟩
  obtain ⟨v, rfl, hv⟩ := ha.one
  obtain ⟨a, ws, rfl, hH, hl⟩ := hv.lst
  rw [Vals.ref1 r]
  unfold sortD at hs
  split at hs <;> cases hs
  rename_i c
  simp only [Bool.and_eq_true, Bool.or_eq_true, List.all_eq_true, decide_eq_true_eq] at c
  obtain ⟨⟨⟨⟨c1, c2⟩, c3⟩, c4⟩, c5⟩ := c
  obtain ⟨its, rv, pl, hz⟩ := I.list (SqL.of hH)
  have ev := hl.each rv
  have er := each_reads I c3 ev
  refine PySem.W.sorted_data (bs := l) (enc := D.py) pl.isList ev er (fun d hd d' hd' => ?_) ?_ ?_ (fun b hb => ?_) fun out ho eo => ?_
  · obtain ⟨x, hx, rfl⟩ := List.mem_map.mp hd
    obtain ⟨y, hy, rfl⟩ := List.mem_map.mp hd'
    exact py_alike x y (c1 x hx y hy)
  · rcases c2 with c2 | c2
    · refine .inl fun d hd => ?_
      obtain ⟨x, hx, rfl⟩ := List.mem_map.mp hd
      have q := c2 x hx
      unfold D.isT at q
      split at q
      · exact ⟨_, _, by simp only [D.py, D.pys]; rfl⟩
      · cases q
    · refine .inr fun d hd => ?_
      obtain ⟨x, hx, rfl⟩ := List.mem_map.mp hd
      have q := c2 x hx
      unfold D.isI at q
      split at q
      · exact ⟨nofun, fun _ => nofun⟩
      · cases q
  · exact Nat.le_trans c5 line_big
  · rw [py_depth]
    have := depths_mem b hb
    omega
  · have esort : l.mergeSort (PySem.W.dataLe false D.py) = l.mergeSort D.le := PySem.W.sort_congr fun a ha b hb => le_data a b (plains_mem c3 a ha) (plains_mem c3 b hb) (c1 a ha b hb) (c1 b hb a ha)
    rw [esort] at eo
    obtain ⟨ys, ry, ay⟩ := each_ats eo
    obtain ⟨ep, he'⟩ := PyProof.Rows.sortedAll_at s.heap its out.toArray
    have hlen : ys.length ≤ sizeLine := by
      rw [ry.length, ho]
      exact Nat.le_trans c5 line_big
    have hn : H (s.heap.objs.size + 1) = none := I.hok.fresh (Nat.le_succ _)
    exact ⟨.ref _, upd H (s.heap.objs.size + 1) (.lst ys), I.laid (t' := s.toks) (fun _ _ => PyProof.Rows.sortedAll_old) (Nat.le_succ _) ⟨hlen, out, ep, ry, he'⟩, rfl, u.newLst ay hn⟩

def rBi (g : G) (b : Bi) : List V → Hp → VK → Prop := fun vs H Q => ∃ (F : Fr) (ds : List D) (z : D), opBi b ds = some z ∧ AtsB g F H ds vs ∧ Use g F H z Q
theorem bi1 {b : Bi} {ds : List D} {z : D} (h : opBi b ds = some z) (hb : b = .len ∨ b = .int ∨ b = .tuple ∨ b = .list ∨ b = .sorted ∨ b = .all ∨ b = .any ∨ b = .sum ∨ b = .max1 ∨ b = .min1) : ∃ d, ds = [d] := by
  rcases hb with rfl | rfl | rfl | rfl | rfl | rfl | rfl | rfl | rfl | rfl <;>
  · match ds, h with
    | [d], _ => exact ⟨d, rfl⟩
    | [], h => simp [opBi] at h
    | _ :: _ :: _, h => simp [opBi] at h
theorem bi_len (hK : X.K = g.K) : CallR X (.builtin "len") (rBi g .len) := by
  intro pins s σ H vs us Q I r ⟨F, ds, z, hz, ha, u⟩
  obtain ⟨d, rfl⟩ := bi1 hz (by simp)
  obtain ⟨v, rfl, hv⟩ := ha.one
  cases d <;> simp only [opBi] at hz <;> try cases hz
  · rename_i x
    have e : v = .str x := hv.str
    subst e
    split at hz <;> cases hz
    rename_i c
    exact call_len pins s σ H _ us Q I r ⟨.str x, x.length, rfl, ⟨Nat.le_trans c line_big, rfl⟩, u.here rfl⟩
  · obtain ⟨a, ws, rfl, hH, hl⟩ := hv.lst
    exact call_len pins s σ H _ us Q I r ⟨_, _, rfl, .inl ⟨ws, SqL.of hH, hl.length⟩, u.here rfl⟩
  · obtain ⟨a, ws, rfl, hH, hl, _⟩ := hv.tup
    exact call_len pins s σ H _ us Q I r ⟨_, _, rfl, .inr ⟨ws, SqT.of hH, hl.length⟩, u.here rfl⟩
  · obtain ⟨a, rfl, hs⟩ := hv.at (fun _ => nofun) (fun _ _ => nofun)
    exact call_len pins s σ H _ us Q I r ⟨_, _, rfl, .inl ⟨_, by rw [hK]; exact hs.rd, by rw [List.length_map]⟩, u.here rfl⟩
theorem bi_int : CallR X (.type "int") (rBi g .int) := by
  intro pins s σ H vs us Q I r ⟨F, ds, z, hz, ha, u⟩
  obtain ⟨d, rfl⟩ := bi1 hz (by simp)
  obtain ⟨v, rfl, hv⟩ := ha.one
  cases d <;> simp only [opBi] at hz <;> try cases hz
  rename_i i
  have e : v = .int i := hv.int
  subst e
  exact call_int1 pins s σ H _ us Q I r (.inl ⟨i, rfl, u.here rfl⟩)
theorem bi_tuple : CallR X (.type "tuple") (rBi g .tuple) := by
  intro pins s σ H vs us Q I r ⟨F, ds, z, hz, ha, u⟩
  obtain ⟨d, rfl⟩ := bi1 hz (by simp)
  obtain ⟨v, rfl, hv⟩ := ha.one
  cases d <;> simp only [opBi] at hz <;> try cases hz
  · obtain ⟨a, ws, rfl, hH, hl⟩ := hv.lst
    exact call_tuple_of pins s σ H _ us Q I r ⟨a, ws, rfl, .inl ⟨SqL.of hH, fun p hp => u.newTup hl hp⟩⟩
  · obtain ⟨a, ws, rfl, hH, hl, n⟩ := hv.tup
    exact call_tuple_of pins s σ H _ us Q I r ⟨a, ws, rfl, .inr ⟨SqT.of hH, u.here ⟨a, ws, rfl, ⟨hH, n⟩, hl⟩⟩⟩
theorem bi_list : CallR X (.type "list") (rBi g .list) := by
  intro pins s σ H vs us Q I r ⟨F, ds, z, hz, ha, u⟩
  obtain ⟨d, rfl⟩ := bi1 hz (by simp)
  obtain ⟨v, rfl, hv⟩ := ha.one
  cases d <;> simp only [opBi] at hz <;> try cases hz
  · obtain ⟨a, ws, rfl, hH, hl⟩ := hv.lst
    exact call_list_of pins s σ H _ us Q I r ⟨a, ws, rfl, .inl (SqL.of hH), fun p hp => u.newLst hl hp⟩
  · obtain ⟨a, ws, rfl, hH, hl, n⟩ := hv.tup
    exact call_list_of pins s σ H _ us Q I r ⟨a, ws, rfl, .inr (SqT.of hH), fun p hp => u.newLst hl hp⟩
theorem bi_sorted (hu : X.A.units + 64 < cLine) : CallR X (.builtin "sorted") (rBi g .sorted) := by
  intro pins s σ H vs us Q I r ⟨F, ds, z, hz, ha, u⟩
  obtain ⟨d, rfl⟩ := bi1 hz (by simp)
  cases d <;> simp only [opBi] at hz <;> try cases hz
  obtain ⟨l', hl, rfl⟩ := Option.map_eq_some_iff.mp hz
  exact call_sortedX hu pins s σ H vs us Q I r ⟨F, _, l', hl, ha, u⟩
theorem bi_all (hc : X.calm = true) : CallR X (.builtin "all") (rBi g .all) := by
  intro pins s σ H vs us Q I r ⟨F, ds, z, hz, ha, u⟩
  obtain ⟨d, rfl⟩ := bi1 hz (by simp)
  obtain ⟨v, rfl, hv⟩ := ha.one
  cases d <;> simp only [opBi] at hz <;> try cases hz
  obtain ⟨bs, hb, rfl⟩ := Option.map_eq_some_iff.mp hz
  obtain ⟨a, ws, rfl, hH, hl⟩ := hv.lst
  exact cr_all hc pins s σ H _ us Q I r ⟨a, bs, rfl, by rw [← hl.bls hb]; exact SqL.of hH, u.here rfl⟩
theorem bi_any (hc : X.calm = true) : CallR X (.builtin "any") (rBi g .any) := by
  intro pins s σ H vs us Q I r ⟨F, ds, z, hz, ha, u⟩
  obtain ⟨d, rfl⟩ := bi1 hz (by simp)
  obtain ⟨v, rfl, hv⟩ := ha.one
  cases d <;> simp only [opBi] at hz <;> try cases hz
  obtain ⟨bs, hb, rfl⟩ := Option.map_eq_some_iff.mp hz
  obtain ⟨a, ws, rfl, hH, hl⟩ := hv.lst
  exact cr_any hc pins s σ H _ us Q I r ⟨a, bs, rfl, by rw [← hl.bls hb]; exact SqL.of hH, u.here rfl⟩
theorem bi_sum (hc : X.calm = true) : CallR X (.builtin "sum") (rBi g .sum) := by
  intro pins s σ H vs us Q I r ⟨F, ds, z, hz, ha, u⟩
  obtain ⟨d, rfl⟩ := bi1 hz (by simp)
  obtain ⟨v, rfl, hv⟩ := ha.one
  cases d <;> simp only [opBi] at hz <;> try cases hz
  obtain ⟨bs, hb, rfl⟩ := Option.map_eq_some_iff.mp hz
  obtain ⟨a, ws, rfl, hH, hl⟩ := hv.lst
  exact cr_sum hc pins s σ H _ us Q I r ⟨a, bs, rfl, by rw [← hl.ints hb]; exact SqL.of hH, u.here rfl⟩
theorem bi_max1 (hc : X.calm = true) : CallR X (.builtin "max") (rBi g .max1) := by
  intro pins s σ H vs us Q I r ⟨F, ds, z, hz, ha, u⟩
  obtain ⟨d, rfl⟩ := bi1 hz (by simp)
  obtain ⟨v, rfl, hv⟩ := ha.one
  cases d <;> simp only [opBi] at hz <;> try cases hz
  obtain ⟨is, hb, h0⟩ := Option.bind_eq_some_iff.mp hz
  obtain ⟨m, hm, e⟩ := Option.map_eq_some_iff.mp h0
  subst e
  obtain ⟨a, ws, rfl, hH, hl⟩ := hv.lst
  have hm' := List.max?_eq_some_iff.mp hm
  refine cr_max hc pins s σ H _ us Q I r ⟨a, is, rfl, by rw [← hl.ints hb]; exact SqL.of hH, List.length_pos_of_mem hm'.1, fun k hk hle => ?_⟩
  have : k = m := Int.le_antisymm (hm'.2 k hk) (hle m hm'.1)
  subst this
  exact u.here rfl
theorem bi_min1 (hc : X.calm = true) : CallR X (.builtin "min") (rBi g .min1) := by
  intro pins s σ H vs us Q I r ⟨F, ds, z, hz, ha, u⟩
  obtain ⟨d, rfl⟩ := bi1 hz (by simp)
  obtain ⟨v, rfl, hv⟩ := ha.one
  cases d <;> simp only [opBi] at hz <;> try cases hz
  obtain ⟨is, hb, h0⟩ := Option.bind_eq_some_iff.mp hz
  obtain ⟨m, hm, e⟩ := Option.map_eq_some_iff.mp h0
  subst e
  obtain ⟨a, ws, rfl, hH, hl⟩ := hv.lst
  have hm' := List.min?_eq_some_iff.mp hm
  refine cr_min hc pins s σ H _ us Q I r ⟨a, is, rfl, by rw [← hl.ints hb]; exact SqL.of hH, List.length_pos_of_mem hm'.1, fun k hk hle => ?_⟩
  have : k = m := Int.le_antisymm (hle m hm'.1) (hm'.2 k hk)
  subst this
  exact u.here rfl
theorem bi2 {b : Bi} {ds : List D} {z : D} (h : opBi b ds = some z) (hb : b = .max2 ∨ b = .min2) : ∃ i j, ds = [.int i, .int j] := by
  rcases hb with rfl | rfl <;>
  · match ds, h with
    | [.int i, .int j], _ => exact ⟨i, j, rfl⟩
theorem bi_max2 (hc : X.calm = true) : CallR X (.builtin "max") (rBi g .max2) := by
  intro pins s σ H vs us Q I r ⟨F, ds, z, hz, ha, u⟩
  obtain ⟨i, j, rfl⟩ := bi2 hz (by simp)
  obtain ⟨v, v', rfl, h1, h2⟩ := ha.two
  simp only [opBi, Option.some.injEq] at hz
  subst hz
  refine call_max2 hc pins s σ H _ us Q I r ⟨i, j, by rw [h1.int, h2.int], ?_⟩
  refine u.here ?_
  show V.int _ = V.int _
  congr 1
  split <;> omega
theorem bi_min2 (hc : X.calm = true) : CallR X (.builtin "min") (rBi g .min2) := by
  intro pins s σ H vs us Q I r ⟨F, ds, z, hz, ha, u⟩
  obtain ⟨i, j, rfl⟩ := bi2 hz (by simp)
  obtain ⟨v, v', rfl, h1, h2⟩ := ha.two
  simp only [opBi, Option.some.injEq] at hz
  subst hz
  refine call_min2 hc pins s σ H _ us Q I r ⟨i, j, by rw [h1.int, h2.int], ?_⟩
  refine u.here ?_
  show V.int _ = V.int _
  congr 1
  split <;> omega
end
end Mini
end
section
set_option Elab.async false
set_option linter.all false
set_option maxRecDepth 100000
set_option maxHeartbeats 2000000
/-! # Mini: what the evaluator says of an expression, as a reading of the hand layer -/
namespace Mini
open PySem L2 PySem.Spec PyProof.Rows

section
variable (g : G) (C : Calls) (EW : XK)
/-- what must hold behind a piece of code that the evaluator has answered -/
def PostK {β : Type} (F : Fr) (σ : L2.St) (H : Hp) (k : Fr → Hp → β → Prop) : R β → Prop
  | .ok b st => ∀ H' α', Nx F.α H α' H' → Rep g (F.to α' st) σ H' → k (F.to α' st) H' b
  | .exc c d st => ∀ H' α' v dx, Nx F.α H α' H' → Rep g (F.to α' st) σ H' → At g (F.to α' st).μ α' H' d v → H' dx = some (.xd [("value", v)]) → EW (.ref (g.AD.e c)) (some dx) H'
  | .bad => False
def tE (m : E) : TE := fun σ H Q => ∃ F, Rep g F σ H ∧ PostK g EW F σ H (fun F' H' d => ∀ v, At g F'.μ F'.α H' d v → Q v H') (ev g.PR C m F.ρ F.st)
def tB (m : E) : TE := fun σ H Q => ∃ F, Rep g F σ H ∧ PostK g EW F σ H (fun F' H' d => ∀ v, AtB g F' H' d v → Q v H') (ev g.PR C m F.ρ F.st)
def tT (m : E) : TT := fun σ H Q => ∃ F, Rep g F σ H ∧ PostK g EW F σ H (fun _ H' d => ∃ b, d = .bl b ∧ Q b H') (ev g.PR C m F.ρ F.st)
def tAs (ms : List E) : TA := fun σ H Q => ∃ F, Rep g F σ H ∧ PostK g EW F σ H (fun F' H' d => ∀ v, Ats g F'.μ F'.α H' d v → Q v H') (evs g.PR C ms F.ρ F.st)
def tBs (ms : List E) : TA := fun σ H Q => ∃ F, Rep g F σ H ∧ PostK g EW F σ H (fun F' H' d => ∀ v, AtsB g F' H' d v → Q v H') (evs g.PR C ms F.ρ F.st)
end
section
variable {g : G} {C : Calls} {EW : XK} {F : Fr} {σ : L2.St} {H : Hp}
theorem Nx.widen {α : List Addr} {H H' : Hp} (n : Nx [] H [] H') : Nx α H α H' := ⟨fun a o h _ q => n.keep a o h (by simp) q, n.there, [], by simp, by simp⟩
theorem PostK.mono {β : Type} {k k' : Fr → Hp → β → Prop} {r : R β} (p : PostK g EW F σ H k r) (h : ∀ F' H' b, k F' H' b → k' F' H' b) : PostK g EW F σ H k' r := by
  cases r with
  | ok b st => exact fun H' α' n r => h _ _ _ (p H' α' n r)
  | exc c d st => exact p
  | bad => exact p
theorem PostK.shift {β : Type} {k : Fr → Hp → β → Prop} {r : R β} {α1 : List Addr} {st1 : Store} {H1 : Hp} (n : Nx F.α H α1 H1) (p : PostK g EW F σ H k r) : PostK g EW (F.to α1 st1) σ H1 k r := by
  cases r with
  | ok b st => exact fun H' α' n' r => p H' α' (n.trans n') r
  | exc c d st => exact fun H' α' v dx n' r => p H' α' v dx (n.trans n') r
  | bad => exact p
/-- one after the other -/
theorem PostK.bind {β γ : Type} {k : Fr → Hp → γ → Prop} {r : R β} {f : β → Store → R γ} (p : PostK g EW F σ H k (r.bind f)) :
    PostK g EW F σ H (fun F1 H1 x => Nx F.α H F1.α H1 ∧ Rep g F1 σ H1 ∧ (∃ α' st', F1 = F.to α' st') ∧ PostK g EW F1 σ H1 k (f x F1.st)) r := by
  cases r with
  | ok b st => exact fun H' α' n r => ⟨n, r, ⟨_, _, rfl⟩, PostK.shift n p⟩
  | exc c d st => exact p
  | bad => exact p
theorem PostK.now {β : Type} {k : Fr → Hp → β → Prop} {b : β} (r : Rep g F σ H) (p : PostK g EW F σ H k (.ok b F.st)) : k F H b := p H F.α (Nx.refl _ _) r
theorem PostK.use {z : D} {Q : VK} (r : Rep g F σ H) (p : PostK g EW F σ H (fun F' H' d => ∀ v, At g F'.μ F'.α H' d v → Q v H') (.ok z F.st)) : Use g F H z Q :=
  ⟨fun _ hp => r.new_mu hp, r.tabs, fun w H' n t a => p H' F.α n.widen (r.later n t) w a⟩
theorem PostK.useB {z : D} {Q : VK} (r : Rep g F σ H) (p : PostK g EW F σ H (fun F' H' d => ∀ v, AtB g F' H' d v → Q v H') (.ok z F.st)) : Use g F H z Q :=
  ⟨fun _ hp => r.new_mu hp, r.tabs, fun w H' n t a => p H' F.α n.widen (r.later n t) w (.inl a)⟩
theorem PostK.opt {β : Type} {o : Option β} {k : Fr → Hp → β → Prop} {st : Store} (p : PostK g EW F σ H k (R.ofOpt o st)) : ∃ b, o = some b ∧ PostK g EW F σ H k (.ok b st) := by
  cases o with
  | none => exact p.elim
  | some b => exact ⟨b, rfl, p⟩
end

theorem PE_imp {X : Cx} {e : Expr} {t t' : TE} (h : PE X e t) (w : ∀ σ H Q, t' σ H Q → t σ H Q) : PE X e t' := ⟨fun pins s σ H Q I q => h.run pins s σ H Q I (w _ _ _ q)⟩
theorem PT_imp {X : Cx} {e : Expr} {t t' : TT} (h : PT X e t) (w : ∀ σ H Q, t' σ H Q → t σ H Q) : PT X e t' := ⟨fun pins s σ H Q I q => h.run pins s σ H Q I (w _ _ _ q)⟩
theorem PA_imp {X : Cx} {e : List Expr} {t t' : TA} (h : PA X e t) (w : ∀ σ H Q, t' σ H Q → t σ H Q) : PA X e t' := ⟨fun pos pins s σ H Q I q => h.run pos pins s σ H Q I (w _ _ _ q)⟩
theorem PS_imp {X : Cx} {e : Stmt} {t t' : TS} (h : PS X e t) (w : ∀ D σ H, t' D σ H → t D σ H) : PS X e t' := ⟨fun pins s σ H D I q => h.run pins s σ H D I (w _ _ _ q)⟩
theorem PSs_imp {X : Cx} {e : List Stmt} {t t' : TS} (h : PSs X e t) (w : ∀ D σ H, t' D σ H → t D σ H) : PSs X e t' := ⟨fun pins s σ H D I q => h.run pins s σ H D I (w _ _ _ q)⟩

section
variable {g : G} {C : Calls} {EW : XK} {X : Cx} {a b c : Expr} {ma mb mc : E} {pos : Pos}
theorem s_B (h : PE X a (tE g C EW ma)) : PE X a (tB g C EW ma) := PE_imp h fun σ H Q ⟨F, r, p⟩ => ⟨F, r, p.mono fun F' H' d h v hv => h v (.inl hv)⟩
theorem slot_at {F : Fr} {σ : L2.St} {H : Hp} (r : Rep g F σ H) {i : Nat} {s : Slot} (h : F.ρ[i]? = some s) : SlR g F.μ F.α H (F.ω[i]?.join) (σ[i]?.join) s := r.slots i s h
theorem join_some {σ : L2.St} {i : Nat} {v : V} (h : σ[i]?.join = some v) : σ[i]? = some (some v) := by
  cases e : σ[i]? with
  | none => rw [e] at h; cases h
  | some o => rw [e] at h; exact congrArg some h
theorem s_var {i : Nat} {x : Str} (hN : X.N[i]? = some x) (hv : Vis X.env.scope x) (hd : (x == ("__debug__" : Str)) = false) (hcd : (x == ("__classdict__" : Str)) = false) : PE X (.Name x pos) (tE g C EW (.var i)) := by
  refine PE_imp (pe_var hN hv hd hcd) fun σ H Q ⟨F, r, p⟩ => ?_
  simp only [ev] at p
  split at p
  · rename_i d e
    obtain ⟨v, hv, ha⟩ := slot_at r e
    exact ⟨v, join_some hv, p.now r v ha⟩
  · exact p.elim
theorem s_bor {i : Nat} {x : Str} (hN : X.N[i]? = some x) (hv : Vis X.env.scope x) (hd : (x == ("__debug__" : Str)) = false) (hcd : (x == ("__classdict__" : Str)) = false) : PE X (.Name x pos) (tB g C EW (.bor i)) := by
  refine PE_imp (pe_var hN hv hd hcd) fun σ H Q ⟨F, r, p⟩ => ?_
  simp only [ev] at p
  split at p
  · rename_i d e
    obtain ⟨v, hv, ha⟩ := slot_at r e
    exact ⟨v, join_some hv, p.now r v (.inl ha)⟩
  · rename_i l e
    obtain ⟨a, vs, hw, hv, hH, hl⟩ := slot_at r e
    exact ⟨_, join_some hv, p.now r _ (.inr ⟨a, rfl, join_mem hw, .inl ⟨l, vs, rfl, hH, hl⟩⟩)⟩
  · rename_i ks vs e
    obtain ⟨a, kvs, hw, hv, hH, hk, hl⟩ := slot_at r e
    exact ⟨_, join_some hv, p.now r _ (.inr ⟨a, rfl, join_mem hw, .inr ⟨ks, vs, kvs, rfl, hH, hk, hl⟩⟩)⟩
  · exact p.elim
def okK : D → Const → Bool
  | .non, .none => true
  | .bl b, .bool b' => b == b'
  | .int i, .int j => i == j
  | .str x, .str y => x == y
  | _, _ => false
theorem s_k {d : D} {k : Const} {j : Nat} (h : okK d k = true) : PE X (.Constant k j pos) (tE g C EW (.k d)) := by
  unfold okK at h
  split at h
  · exact PE_imp pe_non fun σ H Q ⟨F, r, p⟩ => p.now r _ rfl
  · rename_i b b'
    have e : b = b' := by simpa using h
    subst e
    exact PE_imp pe_bl fun σ H Q ⟨F, r, p⟩ => p.now r _ rfl
  · rename_i b b'
    have e : b = b' := by simpa using h
    subst e
    exact PE_imp pe_int fun σ H Q ⟨F, r, p⟩ => p.now r _ rfl
  · rename_i b b'
    have e : b = b' := by simpa using h
    subst e
    exact PE_imp pe_str fun σ H Q ⟨F, r, p⟩ => p.now r _ rfl
  · cases h
theorem s_gi {x : Str} {i : Int} (hg : Gl X x) (hm : ∃ t, X.mg x = some (.int i t)) (hd : (x == ("__debug__" : Str)) = false) : PE X (.Name x pos) (tE g C EW (.gi x i)) := by
  obtain ⟨t, hm⟩ := hm
  exact PE_imp (pe_glob (v := .int i) hg hm ⟨t, rfl⟩ hd) fun σ H Q ⟨F, r, p⟩ => p.now r _ rfl
theorem s_fn {x : Str} {f : Nat} (hg : Gl X x) (hm : X.mg x = some (.ref (g.AD.f f))) (hd : (x == ("__debug__" : Str)) = false) : PE X (.Name x pos) (tE g C EW (.fn f)) :=
  PE_imp (pe_glob (v := .ref (g.AD.f f)) hg hm rfl hd) fun σ H Q ⟨F, r, p⟩ => p.now r _ rfl
theorem use_bl {F : Fr} {σ : L2.St} {H : Hp} {b : Bool} {Q : VK} (r : Rep g F σ H) (p : PostK g EW F σ H (fun F' H' d => ∀ v, At g F'.μ F'.α H' d v → Q v H') (.ok (.bl b) F.st)) : Q (.bl b) H := p.now r _ rfl
theorem s_bin {o : BOp} (ha : PE X a (tB g C EW ma)) (hb : PE X b (tB g C EW mb)) : PE X (.BinOp a (bopP o) b pos) (tE g C EW (.bin o ma mb)) := by
  refine PE_imp (pe_op (opB_ok (g := g) o) ha hb) fun σ H Q ⟨F, r, p⟩ => ⟨F, r, p.bind.mono fun F1 H1 x ⟨n1, r1, ⟨α1, st1, e1⟩, p1⟩ v hv => ?_⟩
  subst e1
  refine ⟨_, r1, p1.bind.mono fun F2 H2 y ⟨n2, r2, e2, p2⟩ u hu => ?_⟩
  obtain ⟨z, hz, p3⟩ := p2.opt
  obtain ⟨α', st', rfl⟩ := e2
  exact ⟨_, x, y, z, hz, hv.later r1 n2, hu, p3.use r2⟩
theorem s_neg {i : Int} {k : Nat} {p2 : Pos} : PE X (.UnaryOp .USub (.Constant (.int i) k p2) pos) (tE g C EW (.neg (.k (.int i)))) :=
  PE_imp (pe_un un_neg pe_int) fun σ H Q ⟨F, r, p⟩ => ⟨i, rfl, p.now r _ rfl⟩
theorem s_cmp {o : COp} (hu : X.A.units + 65 < cLine) (ha : PE X a (tB g C EW ma)) (hb : PE X b (tB g C EW mb)) (hm : behindInMarks (copP o) b = false) : PE X (.Compare a [copP o] [b] pos) (tE g C EW (.cmp o ma mb)) := by
  refine PE_imp (pe_cmpR (opC_ok (g := g) hu o) ha hb hm) fun σ H Q ⟨F, r, p⟩ => ⟨F, r, p.bind.mono fun F1 H1 x ⟨n1, r1, ⟨α1, st1, e1⟩, p1⟩ v hv => ?_⟩
  subst e1
  refine ⟨_, r1, p1.bind.mono fun F2 H2 y ⟨n2, r2, e2, p2⟩ u hu => ?_⟩
  obtain ⟨z, hz, p3⟩ := p2.opt
  obtain ⟨z', hz', rfl⟩ := Option.map_eq_some_iff.mp hz
  obtain ⟨α', st', rfl⟩ := e2
  exact ⟨_, x, y, z', hz', hv.later r1 n2, hu, use_bl r2 p3⟩
/-- a value that is a truth value, as a test -/
theorem s_test (h : PE X a (tE g C EW ma)) (he : ∀ whole, isTrue a X.env whole = (do let v ← whole; standAt a.pos; holding [v] (truthy v))) : PT X a (tT g C EW ma) := by
  refine PT_imp (pt_val h he) fun σ H Q ⟨F, r, p⟩ => ⟨F, r, p.mono fun F' H' d ⟨b, e, q⟩ v hv => ?_⟩
  subst e
  exact ⟨b, hv, q⟩
theorem st_cmp {o : COp} (hu : X.A.units + 65 < cLine) (ha : PE X a (tB g C EW ma)) (hb : PE X b (tB g C EW mb)) (hm : behindInMarks (copP o) b = false) : PT X (.Compare a [copP o] [b] pos) (tT g C EW (.cmp o ma mb)) := by
  refine PT_imp (pt_cmpR (opC_ok (g := g) hu o) ha hb hm) fun σ H Q ⟨F, r, p⟩ => ⟨F, r, p.bind.mono fun F1 H1 x ⟨n1, r1, ⟨α1, st1, e1⟩, p1⟩ v hv => ?_⟩
  subst e1
  refine ⟨_, r1, p1.bind.mono fun F2 H2 y ⟨n2, r2, e2, p2⟩ u hu => ?_⟩
  obtain ⟨z, hz, p3⟩ := p2.opt
  obtain ⟨z', hz', rfl⟩ := Option.map_eq_some_iff.mp hz
  obtain ⟨α', st', rfl⟩ := e2
  obtain ⟨b, e, q⟩ := p3.now r2
  cases e
  exact ⟨_, x, y, z', hz', hv.later r1 n2, hu, z', rfl, q⟩
theorem s_chn {o o' : COp} (hu : X.A.units + 65 < cLine) (ha : PE X a (tB g C EW ma)) (hb : PE X b (tB g C EW mb)) (hc : PE X c (tB g C EW mc)) (hm : lastMarks [copP o, copP o'] [b, c] = false) :
    PE X (.Compare a [copP o, copP o'] [b, c] pos) (tE g C EW (.chn o o' ma mb mc)) := by
  refine PE_imp (pe_chain (opC_ok (g := g) hu o) (opC_ok (g := g) hu o') ha hb hc hm) fun σ H Q ⟨F, r, p⟩ => ⟨F, r, p.bind.mono fun F1 H1 x ⟨n1, r1, ⟨α1, st1, e1⟩, p1⟩ v hv => ?_⟩
  subst e1
  refine ⟨_, r1, p1.bind.mono fun F2 H2 y ⟨n2, r2, e2, p2⟩ u hu => ?_⟩
  obtain ⟨α', st', rfl⟩ := e2
  have hv' := hv.later (α' := α') (st' := st') r1 n2
  split at p2
  · rename_i hz
    refine ⟨_, x, y, true, hz, hv', hu, true, rfl, ?_⟩
    refine iteT ?_
    refine ⟨_, r2, p2.bind.mono fun F3 H3 z ⟨n3, r3, e3, p3⟩ w hw => ?_⟩
    obtain ⟨q, hq, p4⟩ := p3.opt
    obtain ⟨q', hq', rfl⟩ := Option.map_eq_some_iff.mp hq
    obtain ⟨α3, st3, rfl⟩ := e3
    exact ⟨_, y, z, q', hq', hu.later r2 n3, hw, use_bl r3 p4⟩
  · rename_i hz
    refine ⟨_, x, y, false, hz, hv', hu, false, rfl, ?_⟩
    refine iteF ?_
    exact use_bl r2 p2
  · exact p2.elim
theorem st_chn {o o' : COp} (hu : X.A.units + 65 < cLine) (ha : PE X a (tB g C EW ma)) (hb : PE X b (tB g C EW mb)) (hc : PE X c (tB g C EW mc)) (hm : lastMarks [copP o, copP o'] [b, c] = false) :
    PT X (.Compare a [copP o, copP o'] [b, c] pos) (tT g C EW (.chn o o' ma mb mc)) := by
  refine PT_imp (pt_chain (opC_ok (g := g) hu o) (opC_ok (g := g) hu o') ha hb hc hm) fun σ H Q ⟨F, r, p⟩ => ⟨F, r, p.bind.mono fun F1 H1 x ⟨n1, r1, ⟨α1, st1, e1⟩, p1⟩ v hv => ?_⟩
  subst e1
  refine ⟨_, r1, p1.bind.mono fun F2 H2 y ⟨n2, r2, e2, p2⟩ u hu => ?_⟩
  obtain ⟨α', st', rfl⟩ := e2
  have hv' := hv.later (α' := α') (st' := st') r1 n2
  split at p2
  · rename_i hz
    refine ⟨_, x, y, true, hz, hv', hu, true, rfl, ?_⟩
    refine iteT ?_
    refine ⟨_, r2, p2.bind.mono fun F3 H3 z ⟨n3, r3, e3, p3⟩ w hw => ?_⟩
    obtain ⟨q, hq, p4⟩ := p3.opt
    obtain ⟨q', hq', rfl⟩ := Option.map_eq_some_iff.mp hq
    obtain ⟨α3, st3, rfl⟩ := e3
    obtain ⟨b, e, q⟩ := p4.now r3
    cases e
    exact ⟨_, y, z, q', hq', hu.later r2 n3, hw, q', rfl, q⟩
  · rename_i hz
    refine ⟨_, x, y, false, hz, hv', hu, false, rfl, ?_⟩
    refine iteF ?_
    obtain ⟨b, e, q⟩ := p2.now r2
    cases e
    exact ⟨false, rfl, q⟩
  · exact p2.elim
/-- and, or, not: as values -/
theorem s_and {op : BoolOp} {rest : List Expr} (ha : PE X a (tE g C EW ma)) (hb : PE X (.BoolOp .And (b :: rest) pos) (tE g C EW mb)) : PE X (.BoolOp .And (a :: b :: rest) pos) (tE g C EW (.and ma mb)) := by
  refine PE_imp (pe_and ha hb) fun σ H Q ⟨F, r, p⟩ => ⟨F, r, p.bind.mono fun F1 H1 x ⟨n1, r1, e1, p1⟩ v hv => ?_⟩
  split at p1
  · refine ⟨true, hv, ?_⟩
    refine iteT ?_
    obtain ⟨α', st', rfl⟩ := e1
    exact ⟨_, r1, p1⟩
  · refine ⟨false, hv, ?_⟩
    refine iteF ?_
    exact use_bl r1 p1
  · exact p1.elim
theorem s_or {rest : List Expr} (ha : PE X a (tE g C EW ma)) (hb : PE X (.BoolOp .Or (b :: rest) pos) (tE g C EW mb)) : PE X (.BoolOp .Or (a :: b :: rest) pos) (tE g C EW (.or ma mb)) := by
  refine PE_imp (pe_or ha hb) fun σ H Q ⟨F, r, p⟩ => ⟨F, r, p.bind.mono fun F1 H1 x ⟨n1, r1, e1, p1⟩ v hv => ?_⟩
  split at p1
  · refine ⟨true, hv, ?_⟩
    refine iteT ?_
    exact use_bl r1 p1
  · refine ⟨false, hv, ?_⟩
    refine iteF ?_
    obtain ⟨α', st', rfl⟩ := e1
    exact ⟨_, r1, p1⟩
  · exact p1.elim
theorem s_not (ha : PE X a (tE g C EW ma)) : PE X (.UnaryOp .Not a pos) (tE g C EW (.not ma)) := by
  refine PE_imp (pe_not ha) fun σ H Q ⟨F, r, p⟩ => ⟨F, r, p.bind.mono fun F1 H1 x ⟨n1, r1, e1, p1⟩ v hv => ?_⟩
  split at p1
  · exact ⟨_, hv, use_bl r1 p1⟩
  · exact p1.elim
/-- .. as tests -/
theorem st_and {rest : List Expr} (ha : PT X a (tT g C EW ma)) (hb : PW X (.BoolOp .And (b :: rest) pos) (tT g C EW mb)) : PW X (.BoolOp .And (a :: b :: rest) pos) (tT g C EW (.and ma mb)) := by
  have h := pw_and ha hb
  refine ⟨fun wh pins s σ H Q I q => h.run wh pins s σ H Q I ?_⟩
  obtain ⟨F, r, p⟩ := q
  refine ⟨F, r, p.bind.mono fun F1 H1 x ⟨n1, r1, e1, p1⟩ => ?_⟩
  split at p1
  · refine ⟨true, rfl, ?_⟩
    refine iteT ?_
    obtain ⟨α', st', rfl⟩ := e1
    exact ⟨_, r1, p1⟩
  · refine ⟨false, rfl, ?_⟩
    refine iteF ?_
    obtain ⟨b, e, q⟩ := p1.now r1
    cases e
    exact q
  · exact p1.elim
theorem st_or {rest : List Expr} (ha : PT X a (tT g C EW ma)) (hb : PW X (.BoolOp .Or (b :: rest) pos) (tT g C EW mb)) : PW X (.BoolOp .Or (a :: b :: rest) pos) (tT g C EW (.or ma mb)) := by
  have h := pw_or ha hb
  refine ⟨fun wh pins s σ H Q I q => h.run wh pins s σ H Q I ?_⟩
  obtain ⟨F, r, p⟩ := q
  refine ⟨F, r, p.bind.mono fun F1 H1 x ⟨n1, r1, e1, p1⟩ => ?_⟩
  split at p1
  · refine ⟨true, rfl, ?_⟩
    refine iteT ?_
    obtain ⟨b, e, q⟩ := p1.now r1
    cases e
    exact q
  · refine ⟨false, rfl, ?_⟩
    refine iteF ?_
    obtain ⟨α', st', rfl⟩ := e1
    exact ⟨_, r1, p1⟩
  · exact p1.elim
theorem st_not (ha : PT X a (tT g C EW ma)) : PT X (.UnaryOp .Not a pos) (tT g C EW (.not ma)) := by
  refine PT_imp (pt_not ha) fun σ H Q ⟨F, r, p⟩ => ⟨F, r, p.bind.mono fun F1 H1 x ⟨n1, r1, e1, p1⟩ => ?_⟩
  split at p1
  · obtain ⟨b, e, q⟩ := p1.now r1
    cases e
    exact ⟨_, rfl, q⟩
  · exact p1.elim
/-- truth -/
theorem empty_of {α β : Type} {l : List α} {m : List β} (h : l.length = m.length) : (!l.isEmpty) = !m.isEmpty := by
  cases l with
  | nil => cases m with
    | nil => rfl
    | cons _ _ => simp at h
  | cons _ _ => cases m with
    | nil => simp at h
    | cons _ _ => rfl
theorem tru_at {F : Fr} {H : Hp} {d : D} {v : V} {k : Bool} {K : PySem.W.Frag} (h : AtB g F H d v) (e : truD d = some k) : TruV K v H k := by
  cases d <;> simp only [truD] at e <;> try cases e
  · rw [h.non]; rfl
  · rw [h.bl]; rfl
  · rw [h.int]; rfl
  · obtain ⟨a, vs, rfl, hH, hl⟩ := h.lst
    exact .inl ⟨vs, SqL.of hH, empty_of hl.length⟩
  · obtain ⟨a, vs, rfl, hH, hl, _⟩ := h.tup
    exact .inr (.inl ⟨vs, SqT.of hH, empty_of hl.length⟩)
theorem st_tru (h : PE X a (tB g C EW ma)) (he : ∀ whole, isTrue a X.env whole = (do let v ← whole; standAt a.pos; holding [v] (truthy v))) : PT X a (tT g C EW (.tru ma)) := by
  refine PT_imp (pt_truth h he) fun σ H Q ⟨F, r, p⟩ => ⟨F, r, p.bind.mono fun F1 H1 x ⟨n1, r1, e1, p1⟩ v hv => ?_⟩
  obtain ⟨z, hz, p2⟩ := p1.opt
  obtain ⟨k, hk, rfl⟩ := Option.map_eq_some_iff.mp hz
  obtain ⟨b, e, q⟩ := p2.now r1
  cases e
  exact ⟨k, tru_at hv hk, q⟩
theorem s_ite (hc : PT X c (tT g C EW mc)) (ha : PE X a (tE g C EW ma)) (hb : PE X b (tE g C EW mb)) : PE X (.IfExp c a b pos) (tE g C EW (.ite mc ma mb)) := by
  refine PE_imp (pe_ifExp hc ha hb) fun σ H Q ⟨F, r, p⟩ => ⟨F, r, p.bind.mono fun F1 H1 x ⟨n1, r1, e1, p1⟩ => ?_⟩
  obtain ⟨α', st', rfl⟩ := e1
  split at p1
  · exact ⟨true, rfl, iteT ⟨_, r1, p1⟩⟩
  · exact ⟨false, rfl, iteF ⟨_, r1, p1⟩⟩
  · exact p1.elim
/-- arguments -/
theorem sa_nil : PA X [] (tAs g C EW []) := PA_imp pa_nil fun σ H Q ⟨F, r, p⟩ => p.now r _ rfl
theorem sb_nil : PA X [] (tBs g C EW []) := PA_imp pa_nil fun σ H Q ⟨F, r, p⟩ => p.now r _ rfl
variable {es : List Expr} {ms : List E}
theorem sa_cons (ha : PE X a (tE g C EW ma)) (hs : PA X es (tAs g C EW ms)) (hst : starEach (a :: es) X.env = (false, eval a X.env) :: starEach es X.env) : PA X (a :: es) (tAs g C EW (ma :: ms)) := by
  refine PA_imp (pa_cons ha hs hst) fun σ H Q ⟨F, r, p⟩ => ⟨F, r, p.bind.mono fun F1 H1 x ⟨n1, r1, ⟨α1, st1, e1⟩, p1⟩ v hv => ?_⟩
  subst e1
  refine ⟨_, r1, p1.bind.mono fun F2 H2 y ⟨n2, r2, e2, p2⟩ u hu => ?_⟩
  obtain ⟨α', st', rfl⟩ := e2
  exact p2.now r2 _ ⟨v, u, rfl, (Fr.mono (F := F.to α1 st1) (st' := st') n2).at _ _ hv, hu⟩
theorem sb_cons (ha : PE X a (tB g C EW ma)) (hs : PA X es (tBs g C EW ms)) (hst : starEach (a :: es) X.env = (false, eval a X.env) :: starEach es X.env) : PA X (a :: es) (tBs g C EW (ma :: ms)) := by
  refine PA_imp (pa_cons ha hs hst) fun σ H Q ⟨F, r, p⟩ => ⟨F, r, p.bind.mono fun F1 H1 x ⟨n1, r1, ⟨α1, st1, e1⟩, p1⟩ v hv => ?_⟩
  subst e1
  refine ⟨_, r1, p1.bind.mono fun F2 H2 y ⟨n2, r2, e2, p2⟩ u hu => ?_⟩
  obtain ⟨α', st', rfl⟩ := e2
  exact p2.now r2 _ ⟨v, u, rfl, hv.later r1 n2, hu⟩
end
end Mini
end
section
set_option Elab.async false
set_option linter.all false
set_option maxRecDepth 100000
set_option maxHeartbeats 2000000
/-! # Mini: displays, items, slices, fields, built-in calls -/
namespace Mini
open PySem L2 PySem.Spec PyProof.Rows

/-- what the text's top says (names that keep their meaning) -/
structure Txt (g : G) (mg : Str → Option Value) : Prop where
  blt : ∀ x : Str, x ∈ (["len", "int", "tuple", "list", "sorted", "all", "any", "sum", "max", "min", "range", "enumerate", "zip", "isinstance", "repr", "str", "set", "bool", "dict"] : List Str) → mg x = none
  gi : ∀ x i, g.NM.gi x = some i → ∃ t, mg x = some (.int i t)
  cls : ∀ c, g.PR.flds c ≠ [] → Cls g.K (g.AD.c c)
  noat : ∀ c f, f ∈ g.PR.flds c → NoAttr g.K (g.AD.c c) (g.NM.fld f)
  inj : ∀ c f f', f ∈ g.PR.flds c → f' ∈ g.PR.flds c → g.NM.fld f = g.NM.fld f' → f = f'
  nodup : ∀ c, (g.PR.flds c).Nodup
  few : ∀ c, (g.PR.flds c).length < 1000

section
variable {g : G} {C : Calls} {EW : XK} {X : Cx} {a b c : Expr} {ma mb mc : E} {pos : Pos} {es : List Expr} {ms : List E}
theorem evs_len {P : Prog} {C : Calls} : ∀ {ms : List E} {ρ : Env} {st st' : Store} {ds : List D}, evs P C ms ρ st = .ok ds st' → ds.length = ms.length := by
  intro ms
  induction ms with
  | nil =>
    intro ρ st st' ds h
    simp only [evs, R.ok.injEq] at h
    rw [← h.1]
    rfl
  | cons m ms ih =>
    intro ρ st st' ds h
    simp only [evs] at h
    cases e : ev P C m ρ st with
    | ok d st1 =>
      rw [e] at h
      simp only [R.bind] at h
      cases e2 : evs P C ms ρ st1 with
      | ok ds' st2 =>
        rw [e2] at h
        simp only [R.ok.injEq] at h
        rw [← h.1, List.length_cons, List.length_cons, ih e2]
      | exc _ _ _ => rw [e2] at h; cases h
      | bad => rw [e2] at h; cases h
    | exc _ _ _ => rw [e] at h; cases h
    | bad => rw [e] at h; cases h
/-- what the answer is may be used -/
theorem PostK.keep {β : Type} {F : Fr} {σ : L2.St} {H : Hp} {k : Fr → Hp → β → Prop} {r : R β} (p : PostK g EW F σ H k r) : PostK g EW F σ H (fun F' H' b => k F' H' b ∧ ∃ st, r = .ok b st) r := by
  cases r with
  | ok b st => exact fun H' α' n r => ⟨p H' α' n r, st, rfl⟩
  | exc c d st => exact p
  | bad => exact p
theorem s_tup {k : Nat} (h : PA X es (tAs g C EW ms)) (hl : ms.length ≤ 1000) : PE X (.Tuple es k pos) (tE g C EW (.tup ms)) := by
  refine PE_imp (pe_tup h) fun σ H Q ⟨F, r, p⟩ => ⟨F, r, p.bind.keep.mono fun F1 H1 x ⟨⟨n1, r1, e1, p1⟩, st, e⟩ vs hv => ?_⟩
  refine ⟨?_, fun q hq => (p1.use r1).newTup hv hq⟩
  rw [← hv.length, evs_len e, sizeLine_eq]
  omega
theorem s_lst (h : PA X es (tAs g C EW ms)) (hl : ms.length ≤ 1000) : PE X (.List es pos) (tE g C EW (.lst ms)) := by
  refine PE_imp (pe_lst h) fun σ H Q ⟨F, r, p⟩ => ⟨F, r, p.bind.keep.mono fun F1 H1 x ⟨⟨n1, r1, e1, p1⟩, st, e⟩ vs hv => ?_⟩
  refine ⟨?_, fun q hq => (p1.use r1).newLst hv hq⟩
  rw [← hv.length, evs_len e, sizeLine_eq]
  omega
theorem s_edic : PE X (.Dict [] [] pos) (tE g C EW .edic) := by
  refine PE_imp pe_dnewK fun σ H Q ⟨F, r, p⟩ => fun d hd => ?_
  have u := p.use r
  exact u.q _ _ (Nx.new hd) (u.tabs.ext fun b o e => by rw [upd_ne (ne_of_none e hd)]; exact e) ⟨d, [], rfl, u.mu d hd, upd_same, rfl, rfl⟩
/-! ### items -/
theorem at_atI {μ : Addr → Prop} {α : List Addr} {H : Hp} {l : List D} {vs : List V} {j : Int} {z : D} (h : Ats g μ α H l vs) (e : atD l j = some z) : ∃ v, atI vs j = some v ∧ At g μ α H z v := by
  have hl := h.length
  unfold atD at e
  split at e
  · rename_i h0
    obtain ⟨v, hv, ha⟩ := h.get e
    refine ⟨v, ?_, ha⟩
    unfold atI ixN
    have hi : j.toNat < vs.length := (List.getElem?_eq_some_iff.mp hv).1
    rw [if_pos h0, if_pos (by omega)]
    exact hv
  · rename_i h0
    split at e
    · rename_i h1
      obtain ⟨v, hv, ha⟩ := h.get e
      refine ⟨v, ?_, ha⟩
      unfold atI ixN
      rw [if_neg h0, if_pos (by omega), ← hl]
      exact hv
    · cases e
theorem ints_atI {l : List Int} {j i : Int} (e : atD l j = some i) : atI (l.map V.int) j = some (.int i) := by
  unfold atD at e
  split at e
  · rename_i h0
    have hi : j.toNat < l.length := (List.getElem?_eq_some_iff.mp e).1
    unfold atI ixN
    rw [if_pos h0, if_pos (by rw [List.length_map]; omega)]
    show (l.map V.int)[j.toNat]? = _
    rw [List.getElem?_map, e]
    rfl
  · rename_i h0
    split at e
    · unfold atI ixN
      rw [if_neg h0, if_pos (by rw [List.length_map]; omega), List.length_map]
      show (l.map V.int)[(j + l.length).toNat]? = _
      rw [List.getElem?_map, e]
      rfl
    · cases e
theorem s_ix (hK : X.K = g.K) (ha : PE X a (tB g C EW ma)) (hb : PE X b (tB g C EW mb)) (hs : PlainIx b) : PE X (.Subscript a b pos) (tE g C EW (.ix ma mb)) := by
  refine PE_imp (pe_ix ix_seq ha hb hs) fun σ H Q ⟨F, r, p⟩ => ⟨F, r, p.bind.mono fun F1 H1 x ⟨n1, r1, ⟨α1, st1, e1⟩, p1⟩ v hv => ?_⟩
  subst e1
  refine ⟨_, r1, p1.bind.mono fun F2 H2 y ⟨n2, r2, e2, p2⟩ u hu => ?_⟩
  obtain ⟨α2, st2, rfl⟩ := e2
  have hv := hv.later (α' := α2) (st' := st2) r1 n2
  cases y <;> try exact False.elim p2
  rename_i j _
  cases x <;> try exact False.elim p2
  · rename_i l _ _
    obtain ⟨z, hz, p3⟩ := p2.opt
    obtain ⟨q, vs, rfl, hH, hl⟩ := hv.lst
    obtain ⟨w, hw, hat⟩ := at_atI hl hz
    exact .inl ⟨q, vs, j, w, rfl, hu.int, SqL.of hH, hw, (p3.use r2).here hat⟩
  · rename_i l _ _
    obtain ⟨z, hz, p3⟩ := p2.opt
    obtain ⟨q, vs, rfl, hH, hl, _⟩ := hv.tup
    obtain ⟨w, hw, hat⟩ := at_atI hl hz
    exact .inr (.inl ⟨q, vs, j, w, rfl, hu.int, SqT.of hH, hw, (p3.use r2).here hat⟩)
  · rename_i l _ _
    obtain ⟨z, hz, p3⟩ := p2.opt
    obtain ⟨i, hi, rfl⟩ := Option.map_eq_some_iff.mp hz
    obtain ⟨q, rfl, hq⟩ := hv.at (fun _ => nofun) (fun _ _ => nofun)
    exact .inl ⟨q, _, j, .int i, rfl, hu.int, by rw [hK]; exact hq.rd, ints_atI hi, (p3.use r2).here rfl⟩
  · rename_i q _ _ _
    cases hq : ((F.to α1 st1).to α2 st2).st[q]? with
    | none => simp only [hq] at p2; exact False.elim p2
    | some o =>
      simp only [hq] at p2
      cases o with
      | ins _ _ => exact False.elim p2
      | lst l =>
        obtain ⟨z, hz, p3⟩ := p2.opt
        obtain ⟨q', rfl, hq'⟩ := hv.at (fun _ => nofun) (fun _ _ => nofun)
        obtain ⟨q2, hq2, vs, hH, hl⟩ := r2.objs q _ hq
        have e : q2 = q' := Option.some.inj (hq2.symm.trans hq')
        subst e
        obtain ⟨w, hw, hat⟩ := at_atI hl hz
        exact .inl ⟨q2, vs, j, w, rfl, hu.int, SqL.of hH, hw, (p3.use r2).here hat⟩
/-! ### slices -/
/-- a slice's part, left out or an int -/
def cutO (n : Nat) (o : Option Int) (d : Nat) : Nat := HT.sIx n d o
def PtOk (o : Option Int) (d : D) : Prop := (d = .non ∧ o = none) ∨ ∃ i, d = .int i ∧ o = some i
theorem cutI_ok {n d k : Nat} {x : D} {o : Option Int} (h : PtOk o x) (e : cutI n x d = some k) : HT.sIx n d o = k := by
  rcases h with ⟨rfl, rfl⟩ | ⟨i, rfl, rfl⟩
  · exact Option.some.inj e
  · simp only [cutI] at e
    split at e
    · cases e
    · exact Option.some.inj e
theorem cut_ok {μ : Addr → Prop} {α : List Addr} {H : Hp} {l z : List D} {vs : List V} {x y : D} {lo hi : Option Int} (h : Ats g μ α H l vs) (hx : PtOk lo x) (hy : PtOk hi y) (e : slL l x y = some z) :
    Ats g μ α H z (cutV vs lo hi) ∧ (HT.sIx vs.length 0 lo = 0 → HT.sIx vs.length vs.length hi = vs.length → z = l) := by
  unfold slL at e
  obtain ⟨a, ha, e⟩ := Option.bind_eq_some_iff.mp e
  obtain ⟨b, hb, e⟩ := Option.bind_eq_some_iff.mp e
  have hl := h.length
  rw [hl] at ha hb
  have ea := cutI_ok hx ha
  have eb := cutI_ok hy hb
  cases e
  refine ⟨?_, fun q1 q2 => ?_⟩
  · unfold cutV
    rw [ea, eb, ← List.drop_take]
    exact (h.take b).drop a
  · rw [ea] at q1
    rw [eb] at q2
    subst q1 q2
    rw [← hl, List.take_length, List.drop_zero]
/-- a part of a slice: m is .k .non for one that is left out -/
inductive PartOk (g : G) (C : Calls) (EW : XK) (X : Cx) : Option Expr → E → Prop where
  | no : PartOk g C EW X none (.k .non)
  | at {e : Expr} {m : E} (h : PE X e (tB g C EW m)) : PartOk g C EW X (some e) m
def tPt (g : G) (C : Calls) (EW : XK) (e : Option Expr) (m : E) : TO := fun σ H Q => ∃ F, Rep g F σ H ∧ PostK g EW F σ H (fun _ H' d => (e = none → d = .non) ∧ (∀ x, e = some x → ∃ i, d = .int i) ∧ ∀ o, PtOk o d → Q o H') (ev g.PR C m F.ρ F.st)
theorem part_ok {e : Option Expr} {m : E} (h : PartOk g C EW X e m) : PO X e (tPt g C EW e m) := by
  cases h with
  | no =>
    have h := po_none (X := X)
    exact ⟨fun pins s σ H Q I ⟨F, r, p⟩ => h.run pins s σ H Q I ((p.now r).2.2 none (.inl ⟨rfl, rfl⟩))⟩
  | «at» h =>
    have h' := po_some h
    refine ⟨fun pins s σ H Q I ⟨F, r, p⟩ => h'.run pins s σ H Q I ⟨F, r, p.mono fun F' H' d ⟨_, q1, q2⟩ v hv => ?_⟩⟩
    obtain ⟨i, e⟩ := q1 _ rfl
    subst e
    exact ⟨i, hv.int, q2 (some i) (.inr ⟨i, rfl, rfl⟩)⟩
theorem part_of {e : Option Expr} {m : E} (h : PartOk g C EW X e m) (hn : e ≠ none → m.isNon = false) {d : D} (hd : (m.isNon || d.isI) = true) {P : Prog} {C' : Calls} {ρ : Env} {st st' : Store} (he : ev P C' m ρ st = .ok d st') :
    (e = none → d = .non) ∧ (∀ x, e = some x → ∃ i, d = .int i) := by
  cases h with
  | no =>
    simp only [ev, R.ok.injEq] at he
    exact ⟨fun _ => he.1.symm, fun x h => (nomatch h)⟩
  | «at» h =>
    refine ⟨fun h => (nomatch h), fun x _ => ?_⟩
    rw [hn (by simp), Bool.false_or] at hd
    cases d <;> simp [D.isI] at hd
    exact ⟨_, rfl⟩
theorem s_sl {lo hi : Option Expr} {ml mh : E} {p2 : Pos} (ha : PE X a (tB g C EW ma)) (hl : PartOk g C EW X lo ml) (hh : PartOk g C EW X hi mh) (nl : lo ≠ none → ml.isNon = false) (nh : hi ≠ none → mh.isNon = false) :
    PE X (.Subscript a (.Slice lo hi none p2) pos) (tE g C EW (.sl ma ml mh)) := by
  refine PE_imp (pe_slice (SlR.or sl_list sl_tupA) ha (part_ok hl) (part_ok hh)) fun σ H Q ⟨F, r, p⟩ => ⟨F, r, p.bind.mono fun F1 H1 x ⟨n1, r1, ⟨α1, st1, e1⟩, p1⟩ v hv => ?_⟩
  subst e1
  refine ⟨_, r1, p1.bind.keep.mono fun F2 H2 y ⟨⟨n2, r2, ⟨α2, st2, e2⟩, p2⟩, _, ey⟩ => ?_⟩
  subst e2
  have hv := hv.later (α' := α2) (st' := st2) r1 n2
  split at p2
  · rename_i cy
    obtain ⟨y1, y2⟩ := part_of hl nl cy ey
    refine ⟨y1, y2, fun o ho => ⟨_, r2, p2.bind.keep.mono fun F3 H3 z ⟨⟨n3, r3, ⟨α3, st3, e3⟩, p3⟩, _, ez⟩ => ?_⟩⟩
    subst e3
    have hv := hv.later (α' := α3) (st' := st3) r2 n3
    split at p3
    · rename_i cz
      obtain ⟨z1, z2⟩ := part_of hh nh cz ez
      refine ⟨z1, z2, fun o' ho' => ?_⟩
      obtain ⟨q, hq, p4⟩ := p3.opt
      have u := p4.use r3
      cases x <;> try (simp [slD] at hq; done)
      · rename_i l _ _ _
        obtain ⟨l', hl', rfl⟩ := Option.map_eq_some_iff.mp hq
        obtain ⟨a, vs, rfl, hH, hat⟩ := hv.lst
        exact .inl ⟨a, vs, rfl, SqL.of hH, fun p hp => u.newLst (cut_ok hat ho ho' hl').1 hp⟩
      · rename_i l _ _ _
        obtain ⟨l', hl', rfl⟩ := Option.map_eq_some_iff.mp hq
        obtain ⟨a, vs, rfl, hH, hat, np⟩ := hv.tup
        obtain ⟨c1, c2⟩ := cut_ok hat ho ho' hl'
        refine .inr ⟨a, vs, rfl, SqT.of hH, fun ⟨q1, q2⟩ => ?_, fun _ p hp => u.newTup c1 hp⟩
        have e := c2 q1 q2
        subst e
        exact u.here ⟨a, vs, rfl, ⟨hH, np⟩, hat⟩
    · exact p3.elim
  · exact p2.elim
/-! ### fields -/
theorem findIdx_beq {l : List Nat} {f j : Nat} (h : l.findIdx? (· == f) = some j) : l[j]? = some f ∧ ∀ k, k < j → l[k]? ≠ some f := by
  obtain ⟨h1, h2, h3⟩ := List.findIdx?_eq_some_iff_getElem.mp h
  have e : l[j] = f := by simpa using h2
  refine ⟨by rw [List.getElem?_eq_getElem h1, e], fun k hk q => ?_⟩
  have h4 := h3 k hk
  obtain ⟨h5, h6⟩ := List.getElem?_eq_some_iff.mp q
  simp [h6] at h4
theorem zip_lookup {nm : Nat → Str} : ∀ {l : List Nat} {vs : List V} {f j : Nat} {v : V}, (∀ f', f' ∈ l → nm f' = nm f → f' = f) → l.findIdx? (· == f) = some j → vs[j]? = some v → ((l.map nm).zip vs).lookup (nm f) = some v
  | [], _, _, _, _, _, h, _ => by simp at h
  | f' :: l, [], _, _, _, _, _, h => by simp at h
  | f' :: l, u :: vs, f, j, v, inj, h, hv => by
    rw [List.map_cons, List.zip_cons_cons, List.lookup_cons]
    by_cases e : f' = f
    · subst e
      simp [List.findIdx?_cons] at h
      subst h
      simp at hv
      subst hv
      simp
    · have e1 : (nm f == nm f') = false := beq_eq_false_iff_ne.mpr fun q => e (inj f' List.mem_cons_self q.symm)
      rw [e1]
      have e2 : (f' == f) = false := beq_eq_false_iff_ne.mpr e
      have h' : (l.findIdx? (· == f)).map (· + 1) = some j := by simpa [List.findIdx?_cons, e2] using h
      obtain ⟨k, hk, rfl⟩ := Option.map_eq_some_iff.mp h'
      exact zip_lookup (fun f'' hf => inj f'' (List.mem_cons_of_mem _ hf)) hk (by simpa using hv)
theorem fld_at {F : Fr} {H : Hp} {fs : List D} {vs : List V} {c f : Nat} {z : D} (inj : ∀ f', f' ∈ g.PR.flds c → g.NM.fld f' = g.NM.fld f → f' = f) (h : Ats g F.μ F.α H fs vs) (e : ((g.PR.flds c).findIdx? (· == f) |>.bind fun j => fs[j]?) = some z) :
    ∃ v, ((g.names c).zip vs).lookup (g.NM.fld f) = some v ∧ At g F.μ F.α H z v ∧ f ∈ g.PR.flds c := by
  obtain ⟨j, hj, hz⟩ := Option.bind_eq_some_iff.mp e
  obtain ⟨v, hv, ha⟩ := h.get hz
  exact ⟨v, zip_lookup inj hj hv, ha, List.mem_of_getElem? (findIdx_beq hj).1⟩
theorem s_fld {mg : Str → Option Value} (T : Txt g mg) (hK : X.K = g.K) {f : Nat} (ha : PE X a (tE g C EW ma)) (hb : attributeBase a (g.NM.fld f) X.env (eval a X.env) = eval a X.env) : PE X (.Attribute a (g.NM.fld f) pos) (tE g C EW (.fld ma f)) := by
  refine PE_imp (pe_fld ha hb) fun σ H Q ⟨F, r, p⟩ => ⟨F, r, p.bind.mono fun F1 H1 x ⟨n1, r1, _, p1⟩ v hv => ?_⟩
  obtain ⟨z, hz, p2⟩ := p1.opt
  have u := p2.use r1
  rw [hK]
  have ne : ∀ {c : Nat}, f ∈ g.PR.flds c → g.PR.flds c ≠ [] := fun h e => by rw [e] at h; cases h
  cases x with
  | ins c fs =>
    obtain ⟨a, dx, vs, rfl, n, hH, hl, hat⟩ := hv
    have mem : f ∈ g.PR.flds c := by
      obtain ⟨j, hj, _⟩ := Option.bind_eq_some_iff.mp (show ((g.PR.flds c).findIdx? (· == f) |>.bind fun j => fs[j]?) = some z from hz)
      exact List.mem_of_getElem? (findIdx_beq hj).1
    obtain ⟨w, hw, hat, _⟩ := fld_at (fun f' hf e => T.inj c f' f hf mem e) hat hz
    exact ⟨a, _, dx, _, w, rfl, hH, T.cls c (ne mem), T.noat c f mem, hw, u.here hat⟩
  | ptr q =>
    obtain ⟨a, rfl, hq⟩ := hv
    simp only [getFld] at hz
    cases hs : F1.st[q]? with
    | none => simp [hs] at hz
    | some o =>
      simp only [hs] at hz
      cases o with
      | lst _ => simp at hz
      | ins c fs =>
        obtain ⟨a', ha', dx, vs, hH, hl, hat⟩ := r1.objs q _ hs
        have e : a' = a := Option.some.inj (ha'.symm.trans hq)
        subst e
        have mem : f ∈ g.PR.flds c := by
          obtain ⟨j, hj, _⟩ := Option.bind_eq_some_iff.mp hz
          exact List.mem_of_getElem? (findIdx_beq hj).1
        obtain ⟨w, hw, hat, _⟩ := fld_at (fun f' hf e => T.inj c f' f hf mem e) hat hz
        exact ⟨a', _, dx, _, w, rfl, hH, T.cls c (ne mem), T.noat c f mem, hw, u.here hat⟩
  | _ => simp [getFld] at hz
/-! ### built-in calls -/
theorem s_call {r : List V → Hp → VK → Prop} {e : Expr} {b : Bi} (h : PE X e (tCB (rBi g b) (tBs g C EW ms))) : PE X e (tE g C EW (.bi b ms)) := by
  refine PE_imp h fun σ H Q ⟨F, r, p⟩ => ⟨F, r, p.bind.mono fun F1 H1 ds ⟨n1, r1, _, p1⟩ vs hv => ?_⟩
  obtain ⟨z, hz, p2⟩ := p1.opt
  exact ⟨F1, ds, z, hz, hv, p2.use r1⟩
end
end Mini
end
section
set_option Elab.async false
set_option linter.all false
set_option maxRecDepth 100000
set_option maxHeartbeats 2000000
/-! # Mini: what a for, a comprehension walks -/
namespace Mini
open PySem L2 PySem.Spec PyProof.Rows

/-- the walked things: held for good (false), or read at once (true) -/
def AXs (g : G) : Bool → Fr → Hp → List D → List V → Prop
  | true, F, H, ds, vs => AtsB g F H ds vs
  | false, F, H, ds, vs => Ats g F.μ F.α H ds vs
structure WalkOk (g : G) (J : It) (items : List D) (S : Fr → Hp → Prop) : Prop where
  go : ∀ F σ H, Rep g F σ H → S F H → ∀ (i : Nat) d, items[i]? = some d → J.go i H ∧ ∀ x H', J.yld i H x H' → Nx [] H [] H' ∧ LamX.Tabs g.T H' ∧ At g F.μ F.α H' d x
  stop : ∀ F σ H, Rep g F σ H → S F H → J.stop items.length H
section
variable (g : G) (C : Calls) (EW : XK)
def tXs : Bool → List E → TA
  | true, ms => tBs g C EW ms
  | false, ms => tAs g C EW ms
def tIt (b : Bool) (ik : ItK) (ms : List E) : TI := fun σ H R => ∃ F, Rep g F σ H ∧ PostK g EW F σ H (fun F' H' ds => ∃ items, itD ik ds = some items ∧
  ∀ vs, AXs g b F' H' ds vs → ∀ J, WalkOk g J items (fun F H => AXs g b F H ds vs) → R J H') (evs g.PR C ms F.ρ F.st)
end
theorem AXs.toB {g : G} {b : Bool} {F : Fr} {H : Hp} {ds : List D} {vs : List V} (h : AXs g b F H ds vs) : AtsB g F H ds vs := by
  cases b with
  | true => exact h
  | false => exact AtsB.of h
theorem AXs.later {g : G} {b : Bool} {F : Fr} {H H' : Hp} {σ : L2.St} {α' : List Addr} {st' : Store} {ds : List D} {vs : List V} (r : Rep g F σ H) (n : Nx F.α H α' H') (h : AXs g b F H ds vs) : AXs g b (F.to α' st') H' ds vs := by
  cases b with
  | true => exact AtsB.later r n h
  | false => exact (Fr.mono (F := F) (st' := st') n).ats _ _ h

/-! ### sources: a list, a tuple, a text -/
inductive Sc where
  | l (a : Addr) | t (a : Addr) | s (z : Str)
def Sc.v : Sc → V
  | .l a => .ref a
  | .t a => .ref a
  | .s z => .str z
def ScAt (H : Hp) : Sc → List V → Prop
  | .l a, xs => H a = some (.lst xs)
  | .t a, xs => H a = some (.tup xs)
  | .s z, xs => xs = z.cps.toList.map fun c => V.str ⟨#[c]⟩
def ScIt : Sc → Addr → Nat → Heap → Prop
  | .l a, it, i, h => h.IsListIter it a i
  | .t a, it, i, h => h.IsTupleIter it a i
  | .s z, it, i, h => ∃ t, h.IsStrIter it (PySem.strIterType z) z t i
theorem ScAt.inj {H : Hp} {c : Sc} {xs ys : List V} (h : ScAt H c xs) (h' : ScAt H c ys) : xs = ys := by
  cases c with
  | l a => exact HO.lst.inj (Option.some.inj (h.symm.trans h'))
  | t a => exact HO.tup.inj (Option.some.inj (h.symm.trans h'))
  | s z => exact h.trans h'.symm
theorem ScIt.live {c : Sc} {it : Addr} {i : Nat} {h : Heap} (x : ScIt c it i h) : ∃ o, h.get? it = some o ∧ ∀ v, o.data ≠ .cell v := by
  cases c with
  | l a => obtain ⟨o, e, _, d⟩ := x; exact ⟨o, e, fun v z => by rw [d] at z; cases z⟩
  | t a => obtain ⟨o, e, _, d⟩ := x; exact ⟨o, e, fun v z => by rw [d] at z; cases z⟩
  | s z => obtain ⟨_, o, e, _, d⟩ := x; exact ⟨o, e, fun v z => by rw [d] at z; cases z⟩
theorem ScIt.at {c : Sc} {it : Addr} {i : Nat} {h h' : Heap} (x : ScIt c it i h) (k : ∀ o, h.get? it = some o → h'.get? it = some o) : ScIt c it i h' := by
  cases c with
  | l a => obtain ⟨o, e, r⟩ := x; exact ⟨o, k _ e, r⟩
  | t a => obtain ⟨o, e, r⟩ := x; exact ⟨o, k _ e, r⟩
  | s z => obtain ⟨t, o, e, r⟩ := x; exact ⟨t, o, k _ e, r⟩
/-- the source's own cell, where it has one -/
def Sc.cell : Sc → List Addr
  | .l a => [a]
  | .t a => [a]
  | .s _ => []
theorem ScAt.cell {H : Hp} {c : Sc} {xs : List V} (h : ScAt H c xs) : ∀ b ∈ c.cell, H b ≠ none := by
  intro b hb
  cases c with
  | l a =>
    obtain rfl : b = a := by simpa [Sc.cell] using hb
    rw [show H b = some (.lst xs) from h]
    nofun
  | t a =>
    obtain rfl : b = a := by simpa [Sc.cell] using hb
    rw [show H b = some (.tup xs) from h]
    nofun
  | s z => simp [Sc.cell] at hb
section
variable {X : Cx} {pins : List (Addr × Obj)} {s : Shared} {σ : L2.St} {H : Hp}
theorem scat_vals {H : Hp} {c : Sc} {xs : List V} (I : Inv X pins σ H s) (h : ScAt H c xs) (it : Addr) (hd : X.A.handled = none) (hit : ∀ b ∈ c.cell, b ≠ it) {i₀ : Nat} (st₀ : ScIt c it i₀ s.heap) :
    ∃ (fp : List Addr) (P : Nat → Value → Prop) (St : Nat → Heap → Prop), Draws X.prog X.w X.A.in1 it fp xs.length P St ∧ fp = it :: c.cell ∧ St i₀ s.heap ∧ (∀ i h', St i h' → ScIt c it i h') ∧
      ∀ i u, P i u → ∃ v, xs[i]? = some v ∧ RelV v u := by
  have hd1 : X.A.in1.handled = none := hd
  cases c with
  | l a =>
    obtain ⟨its, rv, p, hz⟩ := I.list (SqL.of h)
    have D := Draws.list (prog := X.prog) (w := X.w) hd1 it a (hit a (by simp [Sc.cell])) its.toArray
    rw [show its.toArray.size = xs.length by simp [rv.length]] at D
    refine ⟨[it, a], _, _, D, rfl, ⟨st₀, p.isList⟩, fun i h' x => x.1, fun i u hu => ?_⟩
    have hl := rv.length
    have hu' : its[i]? = some u := by simpa using hu
    cases e : xs[i]? with
    | none =>
      have := List.getElem?_eq_none_iff.mp e
      have := (List.getElem?_eq_some_iff.mp hu').1
      omega
    | some v =>
      obtain ⟨u', h1, h2⟩ := rv.get e
      rw [hu'] at h1
      cases h1
      exact ⟨v, rfl, h2⟩
  | t a =>
    obtain ⟨its, rv, p, hz⟩ := I.tuple (SqT.of h)
    have D := Draws.tuple (prog := X.prog) (w := X.w) hd1 it a (hit a (by simp [Sc.cell])) its.toArray
    rw [show its.toArray.size = xs.length by simp [rv.length]] at D
    refine ⟨[it, a], _, _, D, rfl, ⟨st₀, p⟩, fun i h' x => x.1, fun i u hu => ?_⟩
    have hl := rv.length
    have hu' : its[i]? = some u := by simpa using hu
    cases e : xs[i]? with
    | none =>
      have := List.getElem?_eq_none_iff.mp e
      have := (List.getElem?_eq_some_iff.mp hu').1
      omega
    | some v =>
      obtain ⟨u', h1, h2⟩ := rv.get e
      rw [hu'] at h1
      cases h1
      exact ⟨v, rfl, h2⟩
  | s z =>
    obtain ⟨t, st⟩ := st₀
    have hxs : xs = z.cps.toList.map fun c => V.str ⟨#[c]⟩ := h
    have D := Draws.text (prog := X.prog) (w := X.w) hd1 it z t
    rw [show z.cps.size = xs.length by rw [hxs, List.length_map, Array.length_toList]] at D
    refine ⟨[it], _, _, D, rfl, st, fun i h' x => ⟨t, x⟩, fun i u ⟨c, tk, hc, hu⟩ => ?_⟩
    subst hu
    refine ⟨.str ⟨#[c]⟩, ?_, tk, rfl⟩
    rw [hxs, List.getElem?_map, Array.getElem?_toList, hc]
    rfl
end
/-! ### enumerate -/
def IteG (c : Sc) : It :=
  ⟨fun i H => ∃ xs x, ScAt H c xs ∧ xs[i]? = some x, fun i H v H' => ∃ T x, v = .ref T ∧ H T = none ∧ H' = upd H T (.tup [.int (i : Nat), x]) ∧ ∀ xs, ScAt H c xs → xs[i]? = some x, fun i H => ∃ xs, ScAt H c xs ∧ xs.length = i⟩
theorem turn_enumG {P : Program} {w : World} {K : PySem.W.Frag} {elts : List Expr} {kk : Nat} {tpos : Pos} (c : Sc) (e it : Addr) :
    Turn P w K (.Tuple elts kk tpos) (IteG c) [e, it] e (fun i h => (∃ old, IsEnum h e it ((i : Nat) : Int) old) ∧ ScIt c it i h ∧ e ≠ it) where
  mem := by simp
  obj := fun i h st b hb => by
    obtain ⟨⟨old, he⟩, hi, _⟩ := st
    have e' : b = e ∨ b = it := by simpa using hb
    rcases e' with q | q
    · subst q
      exact ⟨_, he, fun v q => nomatch q⟩
    · subst q
      exact hi.live
  keep := fun i h h' st k => let ⟨⟨old, he⟩, hi, hne⟩ := st; ⟨⟨old, k e (by simp) _ he⟩, hi.at (k it (by simp)), hne⟩
  item := by
    intro X hP hw hK hc i pins s σ H E I hf st hg
    subst hP hw hK
    obtain ⟨⟨old, he⟩, hit, hne⟩ := st
    obtain ⟨xs, x, hq, hx⟩ := hg
    have ncell : ∀ b ∈ c.cell, ∀ q ∈ [e, it], b ≠ q := fun b hb q hq' z => hq.cell b hb (by rw [z]; exact (hf q hq').1)
    obtain ⟨fp, P, St, D, hfp, st1, stb, hP⟩ := scat_vals I hq it (I.ok.hd hc) (fun b hb => ncell b hb it (by simp)) hit
    have hel : e < s.heap.objs.size := Heap.lt_size he
    have hil : it < s.heap.objs.size := by obtain ⟨_, q, _⟩ := hit.live; exact Heap.lt_size q
    have hef : e ∉ fp := fun z => by
      rw [hfp] at z
      rcases List.mem_cons.mp z with z | z
      · exact hne z
      · exact ncell e z e (by simp) rfl
    refine wpAny_pyNext_enum_itemC (c := ((i : Nat) : Int)) D he st1 (List.getElem?_eq_some_iff.mp hx).1 hne hef fun u h' tk hPu ho st2 hT hsz hk => ?_
    obtain ⟨v, hv, ru⟩ := hP i u hPu
    have ev : v = x := Option.some.inj (hv.symm.trans hx)
    subst ev
    refine ⟨_, rfl, wpAny_letOwnedTupleGo_enum (s := { s with heap := h', toks := tk + 1 }) ho fun h'' he' sb => ?_⟩
    have hT2 : h''.get? s.heap.objs.size = some { cls := .type "tuple", data := .seq #[.int ((i : Nat) : Int) tk, u] } := (sb.2 _ (Nat.ne_of_gt hel)).trans hT
    have new : ObjOk X.prog X.w (upd H s.heap.objs.size (.tup [.int (i : Nat), v])) h'' s.heap.objs.size (.tup [.int (i : Nat), v]) :=
      ⟨by show 2 ≤ sizeLine; decide, [.int ((i : Nat) : Int) tk, u], .cons ⟨_, rfl⟩ (.cons ru .nil), ⟨_, hT2, rfl, _, rfl⟩⟩
    have I1 : Inv X pins σ (upd H s.heap.objs.size (.tup [.int (i : Nat), v])) { s with heap := h'', toks := tk + 1 } :=
      I.turnedNew (ch := [e, it]) (fun b ob hb q => (sb.2 b (fun z => hb (by simp [z]))).trans (hk b ob (fun z => hb (by simp [z])) (fun z => hb (by simp [z])) q)) hf (Nat.le_refl _) new
    refine ⟨.ref s.heap.objs.size, _, I1, rfl, ⟨_, v, rfl, I.hok.fresh (Nat.le_refl _), rfl, fun ys hy => by rw [hy.inj hq]; exact hx⟩, ⟨⟨u, ?_⟩, (stb _ _ st2).at fun o q => (sb.2 it (Ne.symm hne)).trans q, hne⟩, fun b hb => ?_⟩
    · have e1 : ((i + 1 : Nat) : Int) = (i : Int) + 1 := by omega
      rw [e1]
      exact he'
    · have hb' : b < s.heap.objs.size := by
        have e' : b = e ∨ b = it := by simpa using hb
        rcases e' with q | q
        · subst q; exact hel
        · subst q; exact hil
      rw [upd_ne (Nat.ne_of_lt hb')]
      exact (hf b hb).1
  done := by
    intro X hP hw hK hc i pins s σ H E I hf st hg
    subst hP hw hK
    obtain ⟨⟨old, he⟩, hit, hne⟩ := st
    obtain ⟨xs, hq, hx⟩ := hg
    subst hx
    have ncell : ∀ b ∈ c.cell, ∀ q ∈ [e, it], b ≠ q := fun b hb q hq' z => hq.cell b hb (by rw [z]; exact (hf q hq').1)
    obtain ⟨fp, P, St, D, hfp, st1, stb, hP⟩ := scat_vals I hq it (I.ok.hd hc) (fun b hb => ncell b hb it (by simp)) hit
    obtain ⟨f0, f1, f2, f3, f4, f5⟩ := hf it (by simp)
    exact wpAny_pyNext_enum_endD D he st1 fun h' eb => ⟨rfl, I.turned (t' := s.toks) (fun b o hb q => eb b o hb q) f0 f1 f3 f4 f5⟩
  self := fun A i s Q E st h => let ⟨⟨_, he⟩, _⟩ := st; wpAny_pyIter_enum he h
/-! ### zip -/
def ItzG (c d : Sc) : It :=
  ⟨fun i H => ∃ (xs ys : List V) (x y : V), ScAt H c xs ∧ ScAt H d ys ∧ xs[i]? = some x ∧ ys[i]? = some y,
    fun i H v H' => ∃ T x y, v = .ref T ∧ H T = none ∧ H' = upd H T (.tup [x, y]) ∧ (∀ xs, ScAt H c xs → xs[i]? = some x) ∧ ∀ ys, ScAt H d ys → ys[i]? = some y,
    fun i H => ∃ xs ys : List V, ScAt H c xs ∧ ScAt H d ys ∧ min xs.length ys.length = i⟩
structure Apart (z TI TO i1 i2 : Addr) : Prop where
  a1 : TI ≠ z
  a2 : TO ≠ z
  a3 : TI ≠ TO
  a4 : TI ≠ i1
  a5 : TI ≠ i2
  a6 : z ≠ i1
  a7 : z ≠ i2
  a8 : TO ≠ i1
  a9 : TO ≠ i2
  a10 : i1 ≠ i2
theorem off_ne {N j k : Nat} (h : j ≠ k) : N + j ≠ N + k := by omega
theorem apart5 (N : Addr) : Apart (N + 4) (N + 2) (N + 3) N (N + 1) :=
  ⟨off_ne (by decide), off_ne (by decide), off_ne (by decide), off_ne (N := N) (j := 2) (k := 0) (by decide), off_ne (by decide), off_ne (N := N) (j := 4) (k := 0) (by decide), off_ne (by decide), off_ne (N := N) (j := 3) (k := 0) (by decide), off_ne (by decide), off_ne (N := N) (j := 0) (k := 1) (by decide)⟩
theorem sep_of {z TI TO i1 i2 : Addr} {H : Hp} {c d : Sc} {xs ys : List V} (A : Apart z TI TO i1 i2) (hc : ScAt H c xs) (hd : ScAt H d ys) (n : ∀ q ∈ [z, TI, TO, i1, i2], H q = none) : ZipSep2 z TI TO i1 i2 (i1 :: c.cell) (i2 :: d.cell) := by
  have nc : ∀ q ∈ [z, TI, TO, i1, i2], q ∉ c.cell := fun q hq hb => hc.cell q hb (n q hq)
  have nd : ∀ q ∈ [z, TI, TO, i1, i2], q ∉ d.cell := fun q hq hb => hd.cell q hb (n q hq)
  have mk : ∀ {q j : Addr} {l : List Addr}, q ≠ j → q ∉ l → q ∉ j :: l := fun h1 h2 h3 => (List.mem_cons.mp h3).elim h1 h2
  exact ⟨A.a1, A.a2, A.a3, A.a4, by simp, mk A.a6 (nc z (by simp)), mk A.a8 (nc TO (by simp)), A.a5, by simp, mk A.a7 (nd z (by simp)), mk A.a9 (nd TO (by simp)), mk A.a10 (nd i1 (by simp)), mk A.a10.symm (nc i2 (by simp))⟩
theorem turn_zipG {P : Program} {w : World} {K : PySem.W.Frag} {elts : List Expr} {kk : Nat} {tpos : Pos} (c d : Sc) {z TI TO i1 i2 : Addr} (AP : Apart z TI TO i1 i2) :
    Turn P w K (.Tuple elts kk tpos) (ItzG c d) [z, TI, TO, i1, i2] z (fun i h => IsZip h z TI TO .none ∧ IsTupOf2 h TI (.ref i1) (.ref i2) ∧ (∃ x y, IsTupOf2 h TO x y) ∧ ScIt c i1 i h ∧ ScIt d i2 i h) where
  mem := by simp
  obj := fun i h st b hb => by
    obtain ⟨hz, hTI, ⟨x, y, hTO⟩, h1, h2⟩ := st
    have e' : b = z ∨ b = TI ∨ b = TO ∨ b = i1 ∨ b = i2 := by simpa using hb
    rcases e' with q | q | q | q | q
    · subst q; exact ⟨_, hz, fun v q => nomatch q⟩
    · subst q; exact ⟨_, hTI, fun v q => nomatch q⟩
    · subst q; exact ⟨_, hTO, fun v q => nomatch q⟩
    · subst q; exact h1.live
    · subst q; exact h2.live
  keep := fun i h h' st k => by
    obtain ⟨hz, hTI, ⟨x, y, hTO⟩, h1, h2⟩ := st
    exact ⟨k z (by simp) _ hz, k TI (by simp) _ hTI, ⟨x, y, k TO (by simp) _ hTO⟩, h1.at (k i1 (by simp)), h2.at (k i2 (by simp))⟩
  item := by
    intro X hP hw hK hc i pins s σ H E I hf st hg
    subst hP hw hK
    obtain ⟨hz, hTI, ⟨x0, y0, hTO⟩, h1, h2⟩ := st
    obtain ⟨xs, ys, x, y, hqx, hqy, hx, hy⟩ := hg
    have S := sep_of AP hqx hqy fun q hq => (hf q hq).1
    obtain ⟨fp1, P1, St1, D1, rfl, s1, b1, p1⟩ := scat_vals I hqx i1 (I.ok.hd hc) (fun b hb e => hqx.cell b hb (by rw [e]; exact (hf i1 (by simp)).1)) h1
    obtain ⟨fp2, P2, St2, D2, rfl, s2, b2, p2⟩ := scat_vals I hqy i2 (I.ok.hd hc) (fun b hb e => hqy.cell b hb (by rw [e]; exact (hf i2 (by simp)).1)) h2
    have hzl : z < s.heap.objs.size := Heap.lt_size hz
    refine wpAny_pyNext_zipD2_item S D1 D2 hz hTI hTO s1 s2 (List.getElem?_eq_some_iff.mp hx).1 (List.getElem?_eq_some_iff.mp hy).1 fun u1 u2 h' tk q1 q2 z' TO' t1 t2 hT hsz hk => ?_
    obtain ⟨v1, hv1, r1⟩ := p1 i u1 q1
    obtain ⟨v2, hv2, r2⟩ := p2 i u2 q2
    obtain rfl : v1 = x := Option.some.inj (hv1.symm.trans hx)
    obtain rfl : v2 = y := Option.some.inj (hv2.symm.trans hy)
    refine ⟨_, rfl, wpAny_letOwnedTupleGo_zip (s := { s with heap := h', toks := tk }) z' fun h'' z'' sb => ?_⟩
    have hT2 : h''.get? s.heap.objs.size = some { cls := .type "tuple", data := .seq #[u1, u2] } := (sb.2 _ (Nat.ne_of_gt hzl)).trans hT
    have new : ObjOk X.prog X.w (upd H s.heap.objs.size (.tup [v1, v2])) h'' s.heap.objs.size (.tup [v1, v2]) :=
      ⟨by show 2 ≤ sizeLine; decide, [u1, u2], .cons r1 (.cons r2 .nil), ⟨_, hT2, rfl, _, rfl⟩⟩
    have I1 : Inv X pins σ (upd H s.heap.objs.size (.tup [v1, v2])) { s with heap := h'', toks := tk } :=
      I.turnedNew (t' := tk) (ch := [z, TI, TO, i1, i2]) (fun b o hb q => (sb.2 b (fun q' => hb (by simp [q']))).trans (hk b o (fun q' => hb (by simp [q'])) (fun q' => hb (by simp [q'])) (fun q' => hb (by simp [q'])) (fun q' => hb (by simp [q'])) q)) hf (Nat.le_refl _) new
    refine ⟨.ref s.heap.objs.size, _, I1, rfl, ⟨_, v1, v2, rfl, I.hok.fresh (Nat.le_refl _), rfl, fun l hl => by rw [hl.inj hqx]; exact hx, fun l hl => by rw [hl.inj hqy]; exact hy⟩, ⟨z'', ?_, ⟨u1, u2, ?_⟩, ?_, ?_⟩, fun b hbm => ?_⟩
    · exact (sb.2 _ AP.a1).trans (hk _ _ AP.a1 AP.a3 AP.a4 AP.a5 hTI)
    · exact (sb.2 _ AP.a2).trans TO'
    · exact (b1 _ _ t1).at fun o q => (sb.2 _ AP.a6.symm).trans q
    · exact (b2 _ _ t2).at fun o q => (sb.2 _ AP.a7.symm).trans q
    · have hlt : b < s.heap.objs.size := by
        have e' : b = z ∨ b = TI ∨ b = TO ∨ b = i1 ∨ b = i2 := by simpa using hbm
        rcases e' with q | q | q | q | q
        · subst q; exact hzl
        · subst q; exact Heap.lt_size hTI
        · subst q; exact Heap.lt_size hTO
        · subst q; obtain ⟨_, e1, _⟩ := h1.live; exact Heap.lt_size e1
        · subst q; obtain ⟨_, e2, _⟩ := h2.live; exact Heap.lt_size e2
      rw [upd_ne (Nat.ne_of_lt hlt)]
      exact (hf b hbm).1
  done := by
    intro X hP hw hK hc i pins s σ H E I hf st hg
    subst hP hw hK
    obtain ⟨hz, hTI, ⟨x0, y0, hTO⟩, h1, h2⟩ := st
    obtain ⟨xs, ys, hqx, hqy, hend⟩ := hg
    have S := sep_of AP hqx hqy fun q hq => (hf q hq).1
    obtain ⟨fp1, P1, St1, D1, rfl, s1, b1, p1⟩ := scat_vals I hqx i1 (I.ok.hd hc) (fun b hb e => hqx.cell b hb (by rw [e]; exact (hf i1 (by simp)).1)) h1
    obtain ⟨fp2, P2, St2, D2, rfl, s2, b2, p2⟩ := scat_vals I hqy i2 (I.ok.hd hc) (fun b hb e => hqy.cell b hb (by rw [e]; exact (hf i2 (by simp)).1)) h2
    exact wpAny_pyNext_zipD2_end S D1 D2 hz hTI hTO s1 s2 (by omega) (by omega) (by omega) fun h' tk hk => ⟨rfl, I.turnedL (t' := tk) (ch := [z, TI, TO, i1, i2]) (fun b o hb q =>
      hk b o (fun q' => hb (by simp [q'])) (fun q' => hb (by simp [q'])) (fun q' => hb (by simp [q'])) (fun q' => hb (by simp [q'])) q) hf⟩
  self := fun A i s Q E st h => wpAny_pyIter_zip st.1 h

/-! ### the walks begin -/
section
variable {g : G} {C : Calls} {EW : XK} {X : Cx} {e e2 tg : Expr} {m m2 : E} {p pos : Pos} {b : Bool}
theorem pi_seqX {te : TE} (he : PE X e te) : PI X tg e (fun σ H R => te σ H fun x H1 => (∃ a xs, x = .ref a ∧ SqL X.K H1 a xs ∧ R (Itl X.K a) H1) ∨ (∃ a xs, x = .ref a ∧ SqT X.K H1 a xs ∧ R (Itt X.K a) H1) ∨ ∃ z, x = .str z ∧ R (Its z) H1) := by
  refine ⟨fun pins s σ H R I h => ?_⟩
  refine thn (he.run pins s σ H _ I h) fun v s1 ⟨x, H1, I1, r1, q1⟩ => ?_
  rcases q1 with ⟨a, xs, ex, hq, q⟩ | ⟨a, xs, ex, hq, q⟩ | ⟨z, ex, q⟩
  · subst ex
    cases r1
    obtain ⟨its, rv, pl, hz⟩ := I1.list hq
    exact wpAny_pyIter_list pl.isList (pi_one (tk := s1.toks) I1 _ (turn_list a _) ⟨_, Heap.get?_push_size _ rfl, rfl, rfl⟩ q)
  · subst ex
    cases r1
    obtain ⟨its, rv, pl, hz⟩ := I1.tuple hq
    exact wpAny_pyIter_tuple (show s1.heap.IsTuple a its.toArray from pl) (pi_one (tk := s1.toks) I1 _ (turn_tuple a _) ⟨_, Heap.get?_push_size _ rfl, rfl, rfl⟩ q)
  · subst ex
    obtain ⟨t, rfl⟩ := r1
    cases ha : z.cps.all (· < 128)
    · exact wpAny_pyIter_wide ha (pi_one (tk := s1.toks) I1 _ (turn_str _ z t "str_iterator" (.inr rfl)) ⟨_, Heap.get?_push_size _ rfl, rfl, rfl⟩ q)
    · exact wpAny_pyIter_ascii ha (pi_one (tk := s1.toks) I1 _ (turn_str _ z t "str_ascii_iterator" (.inl rfl)) ⟨_, Heap.get?_push_size _ rfl, rfl, rfl⟩ q)
/-- enumerate of a tuple -/
theorem enumT_new (l : Addr) (items : Array Value) (n : Nat) (dct : Option Addr) (sl : Array (Option Value)) :
    Meets (Builtin.«enumerate.__new__» ⟨[.type "enumerate", .ref l], []⟩) (fun _ R s => s.heap.get? l = some { cls := .type "tuple", dict := dct, data := .seq items n, slots := sl } ∧
      R (.ok (.ret (.ref (s.heap.push { cls := .type "tuple_iterator", data := .fields #[.ref l, .int 0 0] }).objs.size)))
        { s with heap := (s.heap.push { cls := .type "tuple_iterator", data := .fields #[.ref l, .int 0 0] }).push { cls := .type "enumerate", data := .fields #[.none, .bool false, .ref s.heap.objs.size, rawInt 0, .none, .none] } }) :=
  .of_wp fun prog w A R s h => by
    obtain ⟨hp, g, d, tk, os⟩ := s
    obtain ⟨hl, h⟩ := h
    have hsub := sub_enumerate
    have hT : Heap.IsTuple (Shared.heap ⟨hp, g, d, tk, os⟩) l items := ⟨_, hl, rfl, n, rfl⟩
    wp_walk using AutoSeq1.wpAny_loadPart' hl
    refine wpAny_stack_any fun st => wpAny_pure ?_
    split
    · rename_i c _ _ _ _ _
      cases (c == Value.type "enumerate") <;>
      · wp_walk using AutoSeq1.wpAny_loadPart' hl, wpAny_pyIter_tuple hT
        exact ⟨_, rfl, h⟩
    · wp_walk using AutoSeq1.wpAny_loadPart' hl, wpAny_pyIter_tuple hT
      exact ⟨_, rfl, h⟩
theorem call_enumT {l : Addr} {items : Array Value} {prog : Program} {w : World} {A : Around} {E : Value → Shared → Prop} {s : Shared} {Q : Value → Shared → Prop} (hL : IsTup s.heap l items)
    (h : ∀ h', IsEnum h' (s.heap.objs.size + 1) s.heap.objs.size 0 .none → h'.IsTupleIter s.heap.objs.size l 0 → h'.objs.size = s.heap.objs.size + 2 →
      (∀ b o, s.heap.get? b = some o → h'.get? b = some o) → Q (.ref (s.heap.objs.size + 1)) { s with heap := h' }) :
    wpAny (model prog w) A (call (.type "enumerate") [.ref l]) Q E s := by
  obtain ⟨⟨c, dct, dt, sl⟩, hl, hc, n, hd⟩ := hL
  replace hc : c = .type "tuple" := hc
  replace hd : dt = .seq items n := hd
  subst hc hd
  refine callType_new F.called_enumerate (by decide) (F.typeCall_enumerate_1 _) (F.newCall_enumerate_1 _) (fun obj => F.args_object_init_2 obj _) F.entry_enumerate_new (enumT_new l items n dct sl) ⟨hl, ?_⟩
  have hz : (s.heap.push { cls := .type "tuple_iterator", data := .fields #[.ref l, .int 0 0] }).objs.size = s.heap.objs.size + 1 := Heap.size_push ..
  show _ ∧ _
  rw [hz]
  have he : IsEnum ((s.heap.push { cls := .type "tuple_iterator", data := .fields #[.ref l, .int 0 0] }).push
      { cls := .type "enumerate", data := .fields #[.none, .bool false, .ref s.heap.objs.size, rawInt 0, .none, .none] }) (s.heap.objs.size + 1) s.heap.objs.size 0 .none := by
    have q := Heap.get?_push_size (s.heap.push { cls := .type "tuple_iterator", data := .fields #[.ref l, .int 0 0] })
      (o := { cls := .type "enumerate", data := .fields #[.none, .bool false, .ref s.heap.objs.size, rawInt 0, .none, .none] }) rfl
    rw [hz] at q
    exact q
  exact ⟨⟨_, he, rfl⟩, h _ he ⟨_, Heap.get?_push_of_some _ (Heap.get?_push_size _ rfl), rfl, rfl⟩ (by rw [Heap.size_push, hz]) fun b o x => Heap.get?_push_of_some _ (Heap.get?_push_of_some _ x)⟩
def iEnumG (ta : TA) : TI := fun σ H R => ta σ H fun vs H1 => ∃ c xs, vs = [Sc.v c] ∧ ScAt H1 c xs ∧ R (IteG c) H1
theorem pi_enumG {ta : TA} {tpos : Pos} {elts : List Expr} {kk : Nat} (hg : Gl X "enumerate") (hm : X.mg "enumerate" = none) (ha : PA X [e] ta) (hs : starEach [e] X.env = [(false, eval e X.env)]) :
    PI X (.Tuple elts kk tpos) (.Call (.Name "enumerate" p) [e] [] pos) (iEnumG ta) := by
  refine ⟨fun pins s σ H R I h => ?_⟩
  refine Call_ (ld_blt I hg hm boot_enumerate (PyProof.Rows.callWith_type1 (thn (ha.run pos pins s σ H _ I h) fun us s1 ⟨vs, H1, I1, r1, q1⟩ => ?_) hs rfl))
  obtain ⟨c, xs, ex, hq, q⟩ := q1
  subst ex
  have fin : ∀ h', IsEnum h' (s1.heap.objs.size + 1) s1.heap.objs.size 0 .none → ScIt c s1.heap.objs.size 0 h' → (∀ b o, s1.heap.get? b = some o → h'.get? b = some o) →
      wpAny (model X.prog X.w) X.A (pyIter (.ref (s1.heap.objs.size + 1))) (PIE X pins σ (.Tuple elts kk tpos) R) X.xe { s1 with heap := h' } := fun h' he hit hk => wpAny_pyIter_enum he (by
    have I2 : Inv X pins σ H1 { s1 with heap := h' } := I1.kept (t' := s1.toks) hk
    refine ⟨s1.heap.objs.size + 1, [s1.heap.objs.size + 1, s1.heap.objs.size], _, _, H1, rfl, I2, turn_enumG c (s1.heap.objs.size + 1) s1.heap.objs.size, ⟨⟨.none, he⟩, hit, Nat.succ_ne_self _⟩, fun b hb => ?_, q⟩
    have e' : b = s1.heap.objs.size + 1 ∨ b = s1.heap.objs.size := by simpa using hb
    have hle : s1.heap.objs.size ≤ b := by
      rcases e' with z | z
      · rw [z]; exact Nat.le_add_right _ _
      · rw [z]; exact Nat.le_refl _
    exact I1.fpOk hle (I1.hok.fresh hle))
  obtain ⟨u, eu, r⟩ := vals1 r1
  subst eu
  cases c with
  | l a =>
    cases r
    obtain ⟨its, rv, pl, hz⟩ := I1.list (SqL.of hq)
    exact call_enumerate_list pl.isList fun h' he hit hsz hk => fin h' he hit hk
  | t a =>
    cases r
    obtain ⟨its, rv, pl, hz⟩ := I1.tuple (SqT.of hq)
    exact call_enumT pl fun h' he hit hsz hk => fin h' he hit hk
  | s z =>
    obtain ⟨t, rfl⟩ := r
    exact call_enumerate_str fun h' he hit hsz hk => fin h' he ⟨t, hit⟩ hk
/-- how a source begins -/
theorem sc_begins {pins : List (Addr × Obj)} {s : Shared} {σ : L2.St} {H : Hp} (I : Inv X pins σ H s) {c : Sc} {xs : List V} (h : ScAt H c xs) {u : Value} (r : RelV c.v u) :
    ∃ (o : Obj) (HB : Heap → Prop), Begins u o HB ∧ HB s.heap ∧ ∀ (it : Addr) (h' : Heap), h'.get? it = some o → ScIt c it 0 h' := by
  cases c with
  | l a =>
    cases r
    obtain ⟨its, rv, pl, hz⟩ := I.list (SqL.of h)
    exact ⟨_, _, begins_list a its.toArray, pl.isList, fun it h' e => ⟨_, e, rfl, rfl⟩⟩
  | t a =>
    cases r
    obtain ⟨its, rv, pl, hz⟩ := I.tuple (SqT.of h)
    exact ⟨_, _, begins_tuple a its.toArray, pl, fun it h' e => ⟨_, e, rfl, rfl⟩⟩
  | s z =>
    obtain ⟨t, rfl⟩ := r
    exact ⟨_, _, begins_text z t, trivial, fun it h' e => ⟨t, _, e, rfl, rfl⟩⟩
def iZipG (ta : TA) : TI := fun σ H R => ta σ H fun vs H1 => ∃ c d xs ys, vs = [Sc.v c, Sc.v d] ∧ ScAt H1 c xs ∧ ScAt H1 d ys ∧ R (ItzG c d) H1
theorem pi_zipG {ta : TA} {tpos : Pos} {elts : List Expr} {kk : Nat} (hg : Gl X "zip") (hm : X.mg "zip" = none) (ha : PA X [e, e2] ta)
    (hs : starEach [e, e2] X.env = (false, eval e X.env) :: starEach [e2] X.env) (hpl : (backTo pos (starEach [e2] X.env)).any (·.1) = false) :
    PI X (.Tuple elts kk tpos) (.Call (.Name "zip" p) [e, e2] [] pos) (iZipG ta) := by
  refine ⟨fun pins s σ H R I h => ?_⟩
  refine Call_ (ld_blt I hg hm PyProof.Rows.boot_zip (PyProof.Rows.callWith_type1 (thn (ha.run pos pins s σ H _ I h) fun us s1 ⟨vs, H1, I1, r1, q1⟩ => ?_) hs hpl))
  obtain ⟨c, d, xs, ys, ex, hqx, hqy, q⟩ := q1
  subst ex
  obtain ⟨u1, u2, eu, r, r'⟩ := vals2 r1
  subst eu
  obtain ⟨o1, HB1, B1, b1, k1⟩ := sc_begins I1 hqx r
  obtain ⟨o2, HB2, B2, b2, k2⟩ := sc_begins I1 hqy r'
  refine zip_begins2 B1 B2 b1 b2 fun h' hz hTI hTO e1 e2 hsz hk => wpAny_pyIter_zip hz ?_
  have I2 : Inv X pins σ H1 { s1 with heap := h' } := I1.kept (t' := s1.toks) hk
  refine ⟨s1.heap.objs.size + 4, [s1.heap.objs.size + 4, s1.heap.objs.size + 2, s1.heap.objs.size + 3, s1.heap.objs.size, s1.heap.objs.size + 1], _, _, H1, rfl, I2,
    turn_zipG c d (apart5 s1.heap.objs.size), ⟨hz, hTI, ⟨_, _, hTO⟩, k1 _ _ e1, k2 _ _ e2⟩, fun b hcm => ?_, q⟩
  have e' : b = s1.heap.objs.size + 4 ∨ b = s1.heap.objs.size + 2 ∨ b = s1.heap.objs.size + 3 ∨ b = s1.heap.objs.size ∨ b = s1.heap.objs.size + 1 := by simpa using hcm
  have hle : s1.heap.objs.size ≤ b := by
    rcases e' with z | z | z | z | z
    · rw [z]; exact Nat.le_add_right _ _
    · rw [z]; exact Nat.le_add_right _ _
    · rw [z]; exact Nat.le_add_right _ _
    · rw [z]; exact Nat.le_refl _
    · rw [z]; exact Nat.le_add_right _ _
  exact I1.fpOk hle (I1.hok.fresh hle)
end
end Mini
end
section
set_option Elab.async false
set_option linter.all false
set_option maxRecDepth 100000
set_option maxHeartbeats 2000000
/-! # Mini: walks by the evaluator's items; comprehensions -/
namespace Mini
open PySem L2 PySem.Spec PyProof.Rows
theorem PI_imp {X : Cx} {tg e : Expr} {t t' : TI} (h : PI X tg e t) (w : ∀ σ H R, t' σ H R → t σ H R) : PI X tg e t' := ⟨fun pins s σ H R I q => h.run pins s σ H R I (w _ _ _ q)⟩
section
variable (g : G) (C : Calls) (EW : XK)
def tX : Bool → E → TE
  | true, m => tB g C EW m
  | false, m => tE g C EW m
end
section
variable {g : G} {C : Calls} {EW : XK} {X : Cx} {e e2 tg : Expr} {m m2 : E} {p pos : Pos} {b : Bool}
theorem AXs.one {F : Fr} {H : Hp} {d : D} {v : V} (h : AXs g b F H [d] [v]) : AtB g F H d v := by
  obtain ⟨v', e, h⟩ := h.toB.one
  cases e
  exact h
theorem AXs.of1 {F : Fr} {H : Hp} {d : D} {v : V} (h : match b with | true => AtB g F H d v | false => At g F.μ F.α H d v) : AXs g b F H [d] [v] := by
  cases b with
  | true => exact ⟨v, [], rfl, h, rfl⟩
  | false => exact ⟨v, [], rfl, h, rfl⟩
def ScK : Sc → D → Prop
  | .l _, d => ∃ l, d = .lst l
  | .t _, d => ∃ l, d = .tup l
  | .s _, d => ∃ z, d = .str z
theorem nx0 {H : Hp} : Nx [] H [] H := Nx.refl _ _
theorem walk_lst {l : List D} {a : Addr} {K : PySem.W.Frag} : WalkOk g (Itl K a) l (fun F H => AXs g b F H [.lst l] [.ref a]) where
  go := fun F σ H r h i d hd => by
    obtain ⟨a', vs, ea, hH, hl⟩ := h.one.lst
    cases ea
    obtain ⟨v, hv, ha⟩ := hl.get hd
    refine ⟨⟨vs, v, SqL.of hH, hv⟩, fun x H' ⟨e, y⟩ => ?_⟩
    subst e
    have := y vs (SqL.of hH)
    rw [hv] at this
    cases this
    exact ⟨nx0, r.tabs, ha⟩
  stop := fun F σ H r h => by
    obtain ⟨a', vs, ea, hH, hl⟩ := h.one.lst
    cases ea
    exact ⟨vs, SqL.of hH, Nat.le_of_eq hl.length.symm⟩
theorem walk_tup {l : List D} {a : Addr} {K : PySem.W.Frag} : WalkOk g (Itt K a) l (fun F H => AXs g b F H [.tup l] [.ref a]) where
  go := fun F σ H r h i d hd => by
    obtain ⟨a', vs, ea, hH, hl, _⟩ := h.one.tup
    cases ea
    obtain ⟨v, hv, ha⟩ := hl.get hd
    refine ⟨⟨vs, v, SqT.of hH, hv⟩, fun x H' ⟨e, y⟩ => ?_⟩
    subst e
    have := y vs (SqT.of hH)
    rw [hv] at this
    cases this
    exact ⟨nx0, r.tabs, ha⟩
  stop := fun F σ H r h => by
    obtain ⟨a', vs, ea, hH, hl, _⟩ := h.one.tup
    cases ea
    exact ⟨vs, SqT.of hH, Nat.le_of_eq hl.length.symm⟩
theorem walk_str {z : Str} {S : Fr → Hp → Prop} : WalkOk g (Its z) (z.cps.toList.map fun c => .str ⟨#[c]⟩) S where
  go := fun F σ H r h i d hd => by
    rw [List.getElem?_map] at hd
    obtain ⟨c, hc, rfl⟩ := Option.map_eq_some_iff.mp hd
    have hc' : z.cps[i]? = some c := by rw [← Array.getElem?_toList]; exact hc
    refine ⟨(Array.getElem?_eq_some_iff.mp hc').1, fun x H' ⟨e, c', h1, h2⟩ => ?_⟩
    subst e h2
    rw [hc'] at h1
    cases h1
    exact ⟨nx0, r.tabs, rfl⟩
  stop := fun F σ H r h => by
    show z.cps.size ≤ _
    rw [List.length_map, Array.length_toList]
    exact Nat.le_refl _
theorem walk_rng {lo : Int} {n : Nat} {S : Fr → Hp → Prop} : WalkOk g (Itr lo n) ((List.range n).map fun (i : Nat) => .int (lo + (i : Int))) S where
  go := fun F σ H r h i d hd => by
    rw [List.getElem?_map] at hd
    obtain ⟨c, hc, rfl⟩ := Option.map_eq_some_iff.mp hd
    obtain ⟨h1, h2⟩ := List.getElem?_eq_some_iff.mp hc
    rw [List.length_range] at h1
    rw [List.getElem_range] at h2
    subst h2
    exact ⟨h1, fun x H' ⟨e, y⟩ => by subst e y; exact ⟨nx0, r.tabs, rfl⟩⟩
  stop := fun F σ H r h => by
    show n ≤ _
    rw [List.length_map, List.length_range]
    exact Nat.le_refl _
/-- a source of the datum d -/
theorem sc_of {F : Fr} {H : Hp} {d : D} {v : V} {x : List D} (h : AtB g F H d v) (e : seqOf d = some x ∨ ∃ z, d = .str z ∧ x = z.cps.toList.map fun c => .str ⟨#[c]⟩) : ∃ c xs, v = Sc.v c ∧ ScAt H c xs ∧ Ats g F.μ F.α H x xs ∧ x.length = xs.length := by
  rcases e with e | ⟨z, rfl, rfl⟩
  · cases d <;> simp only [seqOf, Option.some.injEq] at e <;> try cases e
    · obtain ⟨a, vs, rfl, hH, hl⟩ := h.lst
      exact ⟨.l a, vs, rfl, hH, hl, hl.length⟩
    · obtain ⟨a, vs, rfl, hH, hl, _⟩ := h.tup
      exact ⟨.t a, vs, rfl, hH, hl, hl.length⟩
  · refine ⟨.s z, z.cps.toList.map fun c => V.str ⟨#[c]⟩, h.str, rfl, ?_, by rw [List.length_map, List.length_map]⟩
    refine Ats.of_all (by rw [List.length_map, List.length_map]) fun i d v h1 h2 => ?_
    rw [List.getElem?_map] at h1 h2
    obtain ⟨c, hc, rfl⟩ := Option.map_eq_some_iff.mp h1
    rw [hc] at h2
    cases h2
    rfl
/-- the same source, later -/
theorem sc_same {F : Fr} {H : Hp} {d : D} {c : Sc} {x : List D} (h : AtB g F H d c.v) (e : seqOf d = some x ∨ ∃ z, d = .str z ∧ x = z.cps.toList.map fun c => .str ⟨#[c]⟩) : ScK c d → ∃ xs, ScAt H c xs ∧ Ats g F.μ F.α H x xs ∧ x.length = xs.length := by
  intro k
  cases c with
  | l a =>
    obtain ⟨l, rfl⟩ := k
    obtain ⟨a', vs, ea, hH, hl⟩ := h.lst
    cases ea
    rcases e with e | ⟨z, e, _⟩
    · cases e
      exact ⟨vs, hH, hl, hl.length⟩
    · cases e
  | t a =>
    obtain ⟨l, rfl⟩ := k
    obtain ⟨a', vs, ea, hH, hl, _⟩ := h.tup
    cases ea
    rcases e with e | ⟨z, e, _⟩
    · cases e
      exact ⟨vs, hH, hl, hl.length⟩
    · cases e
  | s z' =>
    obtain ⟨l, rfl⟩ := k
    have ez : z' = l := V.str.inj h.str
    subst ez
    obtain ⟨c, xs, e1, e2, e3, e4⟩ := sc_of h e
    cases c with
    | s z2 =>
      have : z' = z2 := V.str.inj e1
      subst this
      exact ⟨xs, e2, e3, e4⟩
    | l _ => cases e1
    | t _ => cases e1
theorem sc_kind {F : Fr} {H : Hp} {d : D} {v : V} {x : List D} (h : AtB g F H d v) (e : seqOf d = some x ∨ ∃ z, d = .str z ∧ x = z.cps.toList.map fun c => .str ⟨#[c]⟩) :
    ∃ c, v = Sc.v c ∧ ScK c d := by
  rcases e with e | ⟨z, rfl, rfl⟩
  · cases d <;> simp only [seqOf, Option.some.injEq] at e <;> try cases e
    · obtain ⟨a, vs, rfl, hH, hl⟩ := h.lst
      exact ⟨.l a, rfl, _, rfl⟩
    · obtain ⟨a, vs, rfl, hH, hl, _⟩ := h.tup
      exact ⟨.t a, rfl, _, rfl⟩
  · exact ⟨.s z, h.str, _, rfl⟩
theorem getR {α : Type} {l : List α} {i : Nat} {k : Nat} {p : α × Nat} (h : (l.zipIdx k)[i]? = some p) : l[i]? = some p.1 ∧ p.2 = k + i := by
  rw [List.getElem?_zipIdx] at h
  obtain ⟨a, h1, h2⟩ := Option.map_eq_some_iff.mp h
  subst h2
  exact ⟨h1, rfl⟩
theorem walk_enum {x : List D} {d : D} {c : Sc} (e : seqOf d = some x ∨ ∃ z, d = .str z ∧ x = z.cps.toList.map fun c => .str ⟨#[c]⟩) (k : ScK c d) :
    WalkOk g (IteG c) (x.zipIdx.map fun p => .tup [.int p.2, p.1]) (fun F H => AXs g b F H [d] [c.v]) where
  go := fun F σ H r h i d' hd => by
    obtain ⟨xs, hs, hl, hle⟩ := sc_same h.one e k
    rw [List.getElem?_map] at hd
    obtain ⟨p, hp, rfl⟩ := Option.map_eq_some_iff.mp hd
    obtain ⟨h1, h2⟩ := getR hp
    obtain ⟨v, hv, ha⟩ := hl.get h1
    refine ⟨⟨xs, v, hs, hv⟩, fun y H' ⟨T, x', e1, e2, e3, e4⟩ => ?_⟩
    subst e1 e3
    have e5 := e4 xs hs
    rw [hv] at e5
    cases e5
    refine ⟨Nx.new e2, r.tabs.ext fun b o q => by rw [upd_ne (ne_of_none q e2)]; exact q, r.newTup e2 (Ats.two ?_ ha)⟩
    show _ = V.int _
    rw [h2, Nat.zero_add]
  stop := fun F σ H r h => by
    obtain ⟨xs, hs, hl, hle⟩ := sc_same h.one e k
    exact ⟨xs, hs, by rw [List.length_map, List.length_zipIdx]; exact hle.symm⟩
theorem AXs.two {F : Fr} {H : Hp} {d d' : D} {v v' : V} (h : AXs g b F H [d, d'] [v, v']) : AtB g F H d v ∧ AtB g F H d' v' := by
  obtain ⟨w, w', e, h1, h2⟩ := h.toB.two
  cases e
  exact ⟨h1, h2⟩
theorem walk_zip {x y : List D} {d d' : D} {c c' : Sc} (e : seqOf d = some x) (e' : seqOf d' = some y) (k : ScK c d)
    (k' : ScK c' d') :
    WalkOk g (ItzG c c') ((x.zip y).map fun p => .tup [p.1, p.2]) (fun F H => AXs g b F H [d, d'] [c.v, c'.v]) where
  go := fun F σ H r h i d'' hd => by
    obtain ⟨xs, hs, hl, hle⟩ := sc_same h.two.1 (.inl e) k
    obtain ⟨ys, hs', hl', hle'⟩ := sc_same h.two.2 (.inl e') k'
    rw [List.getElem?_map] at hd
    obtain ⟨p, hp, rfl⟩ := Option.map_eq_some_iff.mp hd
    obtain ⟨h1, h2⟩ := List.getElem?_zip_eq_some.mp hp
    obtain ⟨v, hv, ha⟩ := hl.get h1
    obtain ⟨v', hv', ha'⟩ := hl'.get h2
    refine ⟨⟨xs, ys, v, v', hs, hs', hv, hv'⟩, fun q H' ⟨T, x', y', e1, e2, e3, e4, e5⟩ => ?_⟩
    subst e1 e3
    have e6 := e4 xs hs
    have e7 := e5 ys hs'
    rw [hv] at e6
    rw [hv'] at e7
    cases e6
    cases e7
    exact ⟨Nx.new e2, r.tabs.ext fun b o q => by rw [upd_ne (ne_of_none q e2)]; exact q, r.newTup e2 (Ats.two ha ha')⟩
  stop := fun F σ H r h => by
    obtain ⟨xs, hs, hl, hle⟩ := sc_same h.two.1 (.inl e) k
    obtain ⟨ys, hs', hl', hle'⟩ := sc_same h.two.2 (.inl e') k'
    exact ⟨xs, ys, hs, hs', by rw [List.length_map, List.length_zip, hle, hle']⟩
/-! ### the walks -/
theorem i_seq (he : PE X e (tX g C EW b m)) : PI X tg e (tIt g C EW b .seq [m]) := by
  have key : ∀ (R : It → Hp → Prop) (F : Fr) (H1 : Hp) (d : D) (v : V), AXs g b F H1 [d] [v] → (∃ items, itD .seq [d] = some items ∧ ∀ vs, AXs g b F H1 [d] vs → ∀ J, WalkOk g J items (fun F H => AXs g b F H [d] vs) → R J H1) →
      (∃ a xs, v = .ref a ∧ SqL X.K H1 a xs ∧ R (Itl X.K a) H1) ∨ (∃ a xs, v = .ref a ∧ SqT X.K H1 a xs ∧ R (Itt X.K a) H1) ∨ ∃ z, v = .str z ∧ R (Its z) H1 := by
    intro R F H1 d v h ⟨items, hi, q⟩
    have q := q [v] h
    cases d <;> simp only [itD] at hi <;> try cases hi
    · exact .inr (.inr ⟨_, h.one.str, q _ walk_str⟩)
    · obtain ⟨a, vs, rfl, hH, hl⟩ := h.one.lst
      exact .inl ⟨a, vs, rfl, SqL.of hH, q _ walk_lst⟩
    · obtain ⟨a, vs, rfl, hH, hl, _⟩ := h.one.tup
      exact .inr (.inl ⟨a, vs, rfl, SqT.of hH, q _ walk_tup⟩)
  refine PI_imp (pi_seqX he) fun σ H R ⟨F, r, p⟩ => ?_
  simp only [evs] at p
  cases b with
  | true => exact ⟨F, r, p.bind.mono fun F1 H1 d ⟨n1, r1, _, p1⟩ v hv => key R F1 H1 d v (AXs.of1 (b := true) hv) (p1.now r1)⟩
  | false => exact ⟨F, r, p.bind.mono fun F1 H1 d ⟨n1, r1, _, p1⟩ v hv => key R F1 H1 d v (AXs.of1 (b := false) hv) (p1.now r1)⟩
theorem tXs_imp {ms : List E} {σ : L2.St} {H : Hp} {Q : List V → Hp → Prop} (h : ∃ F, Rep g F σ H ∧ PostK g EW F σ H (fun F' H' ds => ∀ vs, AXs g b F' H' ds vs → Q vs H') (evs g.PR C ms F.ρ F.st)) : tXs g C EW b ms σ H Q := by
  cases b with
  | true => exact h
  | false => exact h
theorem ev1 {F : Fr} {σ : L2.St} {H : Hp} {k : Fr → Hp → List D → Prop} {ms : List E} (p : PostK g EW F σ H k (evs g.PR C ms F.ρ F.st)) : PostK g EW F σ H (fun F' H' ds => k F' H' ds ∧ ds.length = ms.length) (evs g.PR C ms F.ρ F.st) :=
  p.keep.mono fun F' H' ds ⟨h, st, e⟩ => ⟨h, evs_len e⟩
theorem i_rng (hg : Gl X "range") (hm : X.mg "range" = none) (ha : PA X [e] (tXs g C EW b [m])) (hs : starEach [e] X.env = [(false, eval e X.env)]) : PI X tg (.Call (.Name "range" p) [e] [] pos) (tIt g C EW b .rng [m]) := by
  refine PI_imp (pi_range1 hg hm ha hs) fun σ H R ⟨F, r, p⟩ => tXs_imp ⟨F, r, (ev1 p).mono fun F1 H1 ds ⟨⟨items, hi, q⟩, hl⟩ vs hv => ?_⟩
  match ds, hl with
  | [d], _ =>
    obtain ⟨v, rfl, h⟩ := hv.toB.one
    obtain ⟨n, rfl⟩ : ∃ n, d = .int n := by
      cases d with
      | int n => exact ⟨n, rfl⟩
      | _ => simp [itD] at hi
    simp only [itD] at hi
    split at hi <;> cases hi
    have w : WalkOk g (Itr 0 n.toNat) ((List.range n.toNat).map fun (i : Nat) => .int (i : Int)) (fun F H => AXs g b F H [.int n] [v]) := by
      have := walk_rng (g := g) (lo := 0) (n := n.toNat) (S := fun F H => AXs g b F H [.int n] [v])
      simpa using this
    exact ⟨n, by rw [h.int], by omega, by omega, q _ hv _ w⟩
theorem i_rng2 (hg : Gl X "range") (hm : X.mg "range" = none) (ha : PA X [e, e2] (tXs g C EW b [m, m2])) (hs : starEach [e, e2] X.env = [(false, eval e X.env), (false, eval e2 X.env)]) (hs2 : starEach [e2] X.env = [(false, eval e2 X.env)]) :
    PI X tg (.Call (.Name "range" p) [e, e2] [] pos) (tIt g C EW b .rng2 [m, m2]) := by
  refine PI_imp (pi_range2 hg hm ha hs hs2) fun σ H R ⟨F, r, p⟩ => tXs_imp ⟨F, r, (ev1 p).mono fun F1 H1 ds ⟨⟨items, hi, q⟩, hl⟩ vs hv => ?_⟩
  match ds, hl with
  | [d, d'], _ =>
    obtain ⟨v, v', rfl, h, h'⟩ := hv.toB.two
    obtain ⟨i, rfl⟩ : ∃ n, d = .int n := by
      cases d with
      | int n => exact ⟨n, rfl⟩
      | _ => simp [itD] at hi
    obtain ⟨j, rfl⟩ : ∃ n, d' = .int n := by
      cases d' with
      | int n => exact ⟨n, rfl⟩
      | _ => simp [itD] at hi
    simp only [itD] at hi
    split at hi <;> cases hi
    exact ⟨i, j, by rw [h.int, h'.int], ⟨by omega, by omega, by omega, by omega⟩, q _ hv _ walk_rng⟩
theorem i_enum {elts : List Expr} {kk : Nat} {tpos : Pos} (hg : Gl X "enumerate") (hm : X.mg "enumerate" = none) (ha : PA X [e] (tXs g C EW b [m])) (hs : starEach [e] X.env = [(false, eval e X.env)]) :
    PI X (.Tuple elts kk tpos) (.Call (.Name "enumerate" p) [e] [] pos) (tIt g C EW b .enum [m]) := by
  refine PI_imp (pi_enumG hg hm ha hs) fun σ H R ⟨F, r, p⟩ => tXs_imp ⟨F, r, (ev1 p).mono fun F1 H1 ds ⟨⟨items, hi, q⟩, hl⟩ vs hv => ?_⟩
  match ds, hl with
  | [d], _ =>
    obtain ⟨v, rfl, h⟩ := hv.toB.one
    have e : ∃ x, (seqOf d = some x ∨ ∃ z, d = .str z ∧ x = z.cps.toList.map fun c => .str ⟨#[c]⟩) ∧ items = x.zipIdx.map fun p => .tup [.int p.2, p.1] := by
      cases d with
      | str z =>
        refine ⟨_, .inr ⟨z, rfl, rfl⟩, ?_⟩
        simp only [itD, Option.some.injEq] at hi
        rw [← hi, List.zipIdx_map, List.map_map]
        rfl
      | lst l => exact ⟨l, .inl rfl, by simpa [itD] using hi.symm⟩
      | tup l => exact ⟨l, .inl rfl, by simpa [itD] using hi.symm⟩
      | _ => simp [itD] at hi
    obtain ⟨x, hx, rfl⟩ := e
    obtain ⟨c, rfl, k⟩ := sc_kind h hx
    obtain ⟨xs, h1, h2, _⟩ := sc_same h hx k
    exact ⟨c, xs, rfl, h1, q _ hv _ (walk_enum hx k)⟩
theorem i_zip {elts : List Expr} {kk : Nat} {tpos : Pos} (hg : Gl X "zip") (hm : X.mg "zip" = none) (ha : PA X [e, e2] (tXs g C EW b [m, m2]))
    (hs : starEach [e, e2] X.env = (false, eval e X.env) :: starEach [e2] X.env) (hpl : (backTo pos (starEach [e2] X.env)).any (·.1) = false) :
    PI X (.Tuple elts kk tpos) (.Call (.Name "zip" p) [e, e2] [] pos) (tIt g C EW b .zip [m, m2]) := by
  refine PI_imp (pi_zipG hg hm ha hs hpl) fun σ H R ⟨F, r, p⟩ => tXs_imp ⟨F, r, (ev1 p).mono fun F1 H1 ds ⟨⟨items, hi, q⟩, hl⟩ vs hv => ?_⟩
  match ds, hl with
  | [d, d'], _ =>
    obtain ⟨v, v', rfl, h, h'⟩ := hv.toB.two
    obtain ⟨x, hx, hi⟩ := Option.bind_eq_some_iff.mp hi
    obtain ⟨y, hy, hi⟩ := Option.bind_eq_some_iff.mp hi
    cases hi
    obtain ⟨c, rfl, k⟩ := sc_kind h (.inl hx)
    obtain ⟨c', rfl, k'⟩ := sc_kind h' (.inl hy)
    obtain ⟨xs, h1, _⟩ := sc_same h (.inl hx) k
    obtain ⟨ys, h2, _⟩ := sc_same h' (.inl hy) k'
    exact ⟨c, c', xs, ys, rfl, h1, h2, q _ hv _ (walk_zip hx hy k k')⟩
end
end Mini
end
section
set_option Elab.async false
set_option linter.all false
set_option maxRecDepth 100000
set_option maxHeartbeats 2000000
/-! # Mini: new lists, list comprehensions -/
namespace Mini
open PySem L2 PySem.Spec PyProof.Rows
/-- one thing more that others may change -/
abbrev Fr.plus (F : Fr) (p : Addr) : Fr := { F with ν := fun a => F.ν a ∨ a = p }
section
variable {g : G} {F : Fr} {σ σ' : L2.St} {H H' : Hp} {p : Addr}
theorem Fr.plus_mu {a : Addr} (h : F.μ a) : (F.plus p).μ a := by
  rcases h with z | z | z
  · exact .inl (.inl z)
  · exact .inr (.inl z)
  · exact .inr (.inr z)
theorem Fr.mu_plus {a : Addr} (h : (F.plus p).μ a) : F.μ a ∨ a = p := by
  rcases h with (z | z) | z | z
  · exact .inl (.inl z)
  · exact .inr z
  · exact .inl (.inr (.inl z))
  · exact .inl (.inr (.inr z))
theorem mono_unplus : Mono (F.plus p).μ F.μ F.α F.α H H := ⟨fun _ _ h _ _ => h, fun _ _ z => Fr.plus_mu z, fun _ _ h => h⟩
/-- a smaller or larger set of what may be changed; the same heap but at what may be changed by others -/
theorem Rep.shift {F' : Fr} (r : Rep g F σ H) (e1 : F'.α0 = F.α0) (e2 : F'.H0 = F.H0) (e3 : F'.α = F.α) (e4 : F'.ω = F.ω) (e5 : F'.ρ = F.ρ) (e6 : F'.st = F.st) (e7 : F'.me = F.me) (hk : ∀ a o, H a = some o → ¬ F.ν a → H' a = some o) (ht : ∀ a, Ob H a → Ob H' a)
    (h0 : ∀ a, F.ν a → Ob F.H0 a → H' a = H a) (nu : ∀ a, F'.ν a → Ob H' a ∧ a ∉ F.α ∧ some a ∉ F.ω) (m : Mono F.μ F'.μ F.α F.α H H') (t : LamX.Tabs g.T H') : Rep g F' σ H' := by
  have kA : ∀ a, a ∈ F.α → ∀ o, H a = some o → H' a = some o := fun a ha o h => hk a o h fun z => (r.nu a z).2.1 ha
  have kO : ∀ a, some a ∈ F.ω → ∀ o, H a = some o → H' a = some o := fun a ha o h => hk a o h fun z => (r.nu a z).2.2 ha
  cases F'
  simp only at e1 e2 e3 e4 e5 e6 e7 nu
  subst e1 e2 e3 e4 e5 e6 e7
  refine ⟨⟨fun a o h n q => ?_, fun a h => ht a (r.ent.there a h), r.ent.pre⟩, fun a h => ⟨(r.ow0 a h).1, ht a (r.ow0 a h).2.1, (r.ow0 a h).2.2⟩, fun a h => ht a (r.al0 a h), r.nd, r.nda, nu, t, r.alen, fun k o h => ?_, r.len, r.wlen, fun i s h => ?_, r.me⟩
  · have z := r.ent.keep a o h n q
    by_cases hn : F.ν a
    · rw [h0 a hn (Ob.of h q)]; exact z
    · exact hk a o z hn
  · obtain ⟨a, ha, q⟩ := r.objs k o h
    refine ⟨a, ha, ?_⟩
    have mem := List.mem_of_getElem? ha
    cases o with
    | lst l =>
      obtain ⟨vs, h1, h2⟩ := q
      exact ⟨vs, kA a mem _ h1, m.ats _ _ h2⟩
    | ins c fs =>
      obtain ⟨dx, vs, h1, hl, h2⟩ := q
      exact ⟨dx, vs, kA a mem _ h1, hl, m.ats _ _ h2⟩
  · exact (r.slots i s h).mono m fun a o hw ho _ => kO a (join_mem hw) o ho
/-- a new thing at p -/
theorem Rep.plusNew (r : Rep g F σ H) {o : HO} (h : H p = none) (nt : NT o := by exact fun _ => nofun) : Rep g (F.plus p) σ (upd H p o) := by
  have ne : ∀ a, Ob H a → a ≠ p := fun a h' => h'.ne h
  have kp : ∀ a o', H a = some o' → upd H p o a = some o' := fun a o' h' => by rw [upd_ne (ne_of_none h' h)]; exact h'
  refine r.shift (F' := F.plus p) rfl rfl rfl rfl rfl rfl rfl (fun a o' h' _ => kp a o' h') (fun a h' => h'.keep h) (fun a hn _ => by rw [upd_ne (ne a (r.nu a hn).1)]) (fun a hn => ?_)
    ⟨fun a o' h' _ _ => kp a o' h', fun a h' z => (Fr.mu_plus z).elim id fun e => absurd e (ne a h'), fun _ _ h => h⟩ (r.tabs.ext fun b u e => kp b u e)
  rcases hn with hn | rfl
  · obtain ⟨h1, h2, h3⟩ := r.nu a hn
    exact ⟨h1.keep h, h2, h3⟩
  · exact ⟨Ob.of upd_same nt, fun z => not_ob h (r.al0 a z), fun z => not_ob h (r.ow0 a z).2.1⟩
theorem Rep.unplus (r : Rep g (F.plus p) σ H) : Rep g F σ H :=
  r.shift (F' := F) rfl rfl rfl rfl rfl rfl rfl (fun a o h _ => h) (fun a h => h) (fun a _ _ => rfl) (fun a h => r.nu a (.inl h)) mono_unplus r.tabs
/-- what is neither table nor code object -/
def NC (o : HO) : Prop := (∀ ps, o ≠ .tbl ps) ∧ ∀ P, o ≠ .ext P
theorem tabs_chg {T : List (Addr × Str)} {o u : HO} (t : LamX.Tabs T H) (h : H p = some u) (n : NC u) : LamX.Tabs T (upd H p o) := fun q hq => by
  obtain ⟨ps, h1, h2, h3⟩ := t q hq
  refine ⟨ps, ?_, h2, fun pos cv hc => ?_⟩
  · rw [upd_ne (fun e => by rw [e, h] at h1; cases h1; exact n.1 ps rfl)]; exact h1
  · obtain ⟨c, e1, e2⟩ := h3 pos cv hc
    exact ⟨c, e1, by rw [upd_ne (fun e => by rw [e, h] at e2; cases e2; exact n.2 _ rfl)]; exact e2⟩
/-- the thing at p is changed: others may -/
theorem Rep.chg (r : Rep g (F.plus p) σ H) (h0 : ¬ Ob F.H0 p) {o u : HO} (hu : H p = some u) (hn : NC u) (nt : NT o := by exact fun _ => nofun) : Rep g (F.plus p) σ (upd H p o) := by
  have hp : (F.plus p).ν p := .inr rfl
  refine r.shift (F' := F.plus p) rfl rfl rfl rfl rfl rfl rfl (fun a o' h' n => ?_) (fun a h' => ?_) (fun a hn h' => ?_) (fun a h => ⟨?_, (r.nu a h).2⟩) ⟨fun a o' h' n _ => ?_, fun _ _ h => h, fun _ _ h => h⟩ (tabs_chg r.tabs hu hn)
  · rw [upd_ne (fun e => n (by rw [e]; exact hp))]; exact h'
  · exact h'.upd nt
  · rw [upd_ne (fun e => h0 (by rw [← e]; exact h'))]
  · exact (r.nu a h).1.upd nt
  · rw [upd_ne (fun e => n (.inl (by rw [e]; exact hp)))]; exact h'
end
/-! ### new lists -/
section
variable (g : G) (C : Calls) (EW : XK)
/-- behind an expression that makes a new list, a new dict -/
def KN (Q : VK) (Hs : Hp) (F : Fr) (σ : L2.St) (H : Hp) (d : D) : Prop := ∀ p, ¬ Ob Hs p → ¬ F.μ p → Rep g (F.plus p) σ H →
  ((∃ l vs, d = .lst l ∧ H p = some (.lst vs) ∧ Ats g (F.plus p).μ F.α H l vs) ∨ (d = .dic [] [] ∧ H p = some (.dK []))) → Q (.ref p) H
def tN (m : E) : TE := fun σ H Q => ∃ F, Rep g F σ H ∧ PostK g EW F σ H (fun F' H' d => KN g Q H F' σ H' d) (ev g.PR C m F.ρ F.st)
end
section
variable {g : G} {C : Calls} {EW : XK} {X : Cx} {a b c : Expr} {ma mb mc : E} {pos : Pos} {es : List Expr} {ms : List E}
theorem KN.of {Q : VK} {Hs : Hp} {F : Fr} {σ : L2.St} {H : Hp} {d : D} (h : ∀ v, At g F.μ F.α H d v → Q v H) : KN g Q Hs F σ H d := by
  rintro p h0 n r (⟨l, vs, rfl, hH, hl⟩ | ⟨rfl, hH⟩)
  · exact h _ ⟨p, vs, rfl, ⟨hH, n⟩, mono_unplus.ats _ _ hl⟩
  · exact h _ ⟨p, [], rfl, n, hH, rfl, rfl⟩
theorem s_N (h : PE X a (tN g C EW ma)) : PE X a (tE g C EW ma) := PE_imp h fun σ H Q ⟨F, r, p⟩ => ⟨F, r, p.mono fun F' H' d h => .of h⟩
theorem KN.lst {Q : VK} {Hs : Hp} {F : Fr} {σ : L2.St} {H1 : Hp} {l : List D} {vs : List V} {p : Addr} (r : Rep g F σ H1) (hv : Ats g F.μ F.α H1 l vs) (hp : H1 p = none) (ht : ∀ a, Ob Hs a → Ob H1 a) (h : KN g Q Hs F σ (upd H1 p (.lst vs)) (.lst l)) : Q (.ref p) (upd H1 p (.lst vs)) := by
  have ne : ∀ a, Ob H1 a → a ≠ p := fun a h' => h'.ne hp
  refine h p ?_ (r.new_mu hp) (r.plusNew hp) (.inl ⟨l, vs, rfl, upd_same, ?_⟩)
  · exact fun z => not_ob hp (ht p z)
  · exact (⟨fun a o' h' _ _ => by rw [upd_ne (ne_of_none h' hp)]; exact h', fun a h' z => (Fr.mu_plus z).elim id fun e => absurd e (ne a h'), fun _ _ h => h⟩ : Mono F.μ (F.plus p).μ F.α F.α H1 _).ats _ _ hv
theorem PostK.new {β : Type} {F : Fr} {σ : L2.St} {H : Hp} {k : Fr → Hp → β → Prop} {b : β} {p : Addr} {o : HO} (r : Rep g F σ H) (hp : H p = none) (h : PostK g EW F σ H k (.ok b F.st)) : k F (upd H p o) b := h _ F.α (Nx.new hp) (r.new hp)
theorem n_lst (h : PA X es (tAs g C EW ms)) (hl : ms.length ≤ 1000) : PE X (.List es pos) (tN g C EW (.lst ms)) := by
  refine PE_imp (pe_lst h) fun σ H Q ⟨F, r, p⟩ => ⟨F, r, p.bind.keep.mono fun F1 H1 x ⟨⟨n1, r1, e1, p1⟩, st, e⟩ vs hv => ?_⟩
  refine ⟨?_, fun q hq => KN.lst r1 hv hq n1.there (p1.new r1 hq)⟩
  rw [← hv.length, evs_len e, sizeLine_eq]
  omega
theorem n_edic : PE X (.Dict [] [] pos) (tN g C EW .edic) := by
  refine PE_imp pe_dnewK fun σ H Q ⟨F, r, p⟩ => fun d hd => ?_
  exact (p.new r hd : KN g Q H F σ (upd H d (.dK [])) _) d (not_ob hd) (r.new_mu hd) (r.plusNew hd) (.inr ⟨rfl, upd_same⟩)
end
/-! ### comprehensions -/
theorem asgNs_len : ∀ {ts : List T} {ds : List D} {ρ ρ1 : Env}, asgNs ts ds ρ = some ρ1 → ds.length = ts.length := by
  intro ts
  induction ts with
  | nil =>
    intro ds ρ ρ1 h
    cases ds with
    | nil => rfl
    | cons d ds => cases h
  | cons t ts ih =>
    intro ds ρ ρ1 h
    cases ds with
    | nil => cases h
    | cons d ds =>
      simp only [asgNs] at h
      obtain ⟨ρ2, e1, e2⟩ := Option.bind_eq_some_iff.mp h
      rw [List.length_cons, List.length_cons, ih e2]
section
variable (g : G)
/-- targets of plain names -/
def tG (t : T) : TG := fun v σ H Q => ∃ F d, Rep g F σ H ∧ At g F.μ F.α H d v ∧ ∃ ρ1, asgN t d F.ρ = some ρ1 ∧ ∀ σ', Rep g { F with ρ := ρ1 } σ' H → σ'.length = σ.length → (∀ i, i ∉ t.names → σ'[i]? = σ[i]?) → Q σ' H
def tGs (ts : List T) : TGs := fun vs σ H Q => ∃ F ds, Rep g F σ H ∧ Ats g F.μ F.α H ds vs ∧ ∃ ρ1, asgNs ts ds F.ρ = some ρ1 ∧ ∀ σ', Rep g { F with ρ := ρ1 } σ' H → σ'.length = σ.length → (∀ i, i ∉ T.namess ts → σ'[i]? = σ[i]?) → Q σ' H
end
section
variable {g : G} {X : Cx} {pos : Pos}
theorem PG_imp {X : Cx} {tg : Expr} {t t' : TG} (h : PG X tg t) (w : ∀ v σ H Q, t' v σ H Q → t v σ H Q) : PG X tg t' := ⟨fun pins s σ H v u Q I r q => h.run pins s σ H v u Q I r (w _ _ _ _ q)⟩
theorem PGs_imp {X : Cx} {tg : List Expr} {t t' : TGs} (h : PGs X tg t) (w : ∀ v σ H Q, t' v σ H Q → t v σ H Q) : PGs X tg t' := by
  constructor
  first
    | exact fun pins s σ H v u Q I r q => h.run pins s σ H v u Q I r (w _ _ _ _ q)
/-- a slot is set to a datum -/
theorem Rep.setVal {F : Fr} {σ : L2.St} {H : Hp} {i : Nat} {d : D} {v : V} (r : Rep g F σ H) (hv : At g F.μ F.α H d v) (hi : i < F.ρ.length) : Rep g { F with ρ := F.ρ.set i (.val d) } (σ.set i (some v)) H := by
  refine ⟨r.ent, r.ow0, r.al0, r.nd, r.nda, r.nu, r.tabs, r.alen, r.objs, by simp [r.len], by simp [r.wlen], fun j s h => ?_, fun j c fs h => ?_⟩
  case refine_2 =>
    by_cases e : i = j
    · subst e
      simp only [List.getElem?_set_self hi, Option.some.injEq] at h
      cases h
    · simp only [List.getElem?_set_ne e] at h
      exact r.me j c fs h
  by_cases e : i = j
  · subst e
    have hs : i < σ.length := by rw [← r.len]; exact hi
    simp only [List.getElem?_set_self hi, Option.some.injEq] at h
    subst h
    exact ⟨v, by simp [List.getElem?_set_self hs], hv⟩
  · simp only [List.getElem?_set_ne e] at h ⊢
    exact r.slots j s h
theorem g_nm {i : Nat} {x : Str} (hN : X.N.Nodup) (hi : X.N[i]? = some x) (hx : Loc X.env.scope x) (hf : X.fn x = true ∨ X.env.scope.names.lookup x = some .local) : PG X (.Name x pos) (tG g (.nm i)) := by
  refine PG_imp (pg_name hN hi hx hf) fun v σ H Q ⟨F, d, r, hv, ρ1, e, q⟩ => ?_
  simp only [asgN] at e
  split at e
  · rename_i hl
    cases e
    exact q _ (r.setVal hv hl) (by simp) fun j hj => by
      have : i ≠ j := fun e => hj (by simp [T.names, e])
      exact List.getElem?_set_ne this
  · cases e
theorem gs_nil : PGs X [] (tGs g []) := by
  refine PGs_imp pgs_nil fun vs σ H Q ⟨F, ds, r, hv, ρ1, e, q⟩ => ?_
  cases ds with
  | nil =>
    cases e
    exact ⟨hv, q σ r rfl fun _ _ => rfl⟩
  | cons d ds => cases e
theorem gs_cons {e : Expr} {es : List Expr} {t : T} {ts : List T} (h1 : PG X e (tG g t)) (h2 : PGs X es (tGs g ts)) (hs : (assignEach (e :: es) X.env).map (·.2) = assign e X.env :: (assignEach es X.env).map (·.2)) : PGs X (e :: es) (tGs g (t :: ts)) := by
  refine PGs_imp (pgs_cons h1 h2 hs) fun vs σ H Q ⟨F, ds, r, hv, ρ2, e, q⟩ => ?_
  cases ds with
  | nil => cases e
  | cons d ds =>
    obtain ⟨v, vr, rfl, hd, hr⟩ := hv
    simp only [asgNs] at e
    obtain ⟨ρ1, e1, e2⟩ := Option.bind_eq_some_iff.mp e
    refine ⟨v, vr, rfl, F, d, r, hd, ρ1, e1, fun σ1 r1 l1 a1 => ⟨{ F with ρ := ρ1 }, ds, r1, hr, ρ2, e2, fun σ2 r2 l2 a2 => q σ2 r2 (l2.trans l1) fun i hi => ?_⟩⟩
    rw [a2 i fun z => hi (by simp [T.namess, z]), a1 i fun z => hi (by simp [T.namess, z])]
theorem g_tup {es : List Expr} {k : Nat} {ts : List T} (hc : X.calm = true) (h : PGs X es (tGs g ts)) (hn : (assignEach es X.env).length = ts.length) (hst : (assignEach es X.env).findIdx? (·.1) = none) : PG X (.Tuple es k pos) (tG g (.tup ts)) := by
  refine PG_imp (pg_tup hc h hn hst) fun v σ H Q ⟨F, d, r, hv, ρ1, e, q⟩ => ?_
  cases d with
  | tup l =>
    simp only [asgN] at e
    obtain ⟨a, xs, rfl, hH, hl⟩ := hv
    refine ⟨a, xs, rfl, SqT.of hH.1, ?_, F, l, r, hl, ρ1, e, fun σ' r' l' a' => q σ' r' l' fun i hi => a' i hi⟩
    rw [← hl.length]
    exact asgNs_len e
  | _ => cases e
end
section
variable {g : G} {EW : XK}
theorem wipe_len {σ : L2.St} : ∀ vs : List Nat, (L2.wipe σ vs).length = σ.length := L2.wipe_length σ
theorem wipeE_len {ρ : Env} : ∀ vs : List Nat, (wipeE ρ vs).length = ρ.length
  | [] => rfl
  | v :: vs => by unfold wipeE; rw [List.length_set, wipeE_len vs]
theorem wipe_get {ρ : Env} {j : Nat} {s : Slot} : ∀ ws : List Nat, (wipeE ρ ws)[j]? = some s → s = .no ∨ (ρ[j]? = some s ∧ j ∉ ws) := by
  intro ws
  induction ws with
  | nil => exact fun h => .inr ⟨h, by simp⟩
  | cons w ws ih =>
    intro h
    unfold wipeE at h
    by_cases e : w = j
    · subst e
      rw [List.getElem?_set] at h
      simp only [if_true] at h
      split at h
      · cases h; exact .inl rfl
      · cases h
    · rw [List.getElem?_set_ne e] at h
      rcases ih h with q | ⟨q, q2⟩
      · exact .inl q
      · exact .inr ⟨q, by simp only [List.mem_cons, not_or]; exact ⟨fun z => e z.symm, q2⟩⟩
theorem Rep.wipe {F : Fr} {σ : L2.St} {H : Hp} (r : Rep g F σ H) {vs ws : List Nat} (hs : ∀ i, i ∈ vs → i ∈ ws) : Rep g { F with ρ := wipeE F.ρ ws } (L2.wipe σ vs) H := by
  refine ⟨r.ent, r.ow0, r.al0, r.nd, r.nda, r.nu, r.tabs, r.alen, r.objs, by simp only [wipe_len, wipeE_len]; exact r.len, by simp only [wipeE_len]; exact r.wlen, fun j s h => ?_, fun j c fs h => ?_⟩
  case refine_2 =>
    rcases wipe_get ws h with e | ⟨e, _⟩
    · cases e
    · exact r.me j c fs e
  have hw : ∀ ws : List Nat, (wipeE F.ρ ws)[j]? = some s → s = .no ∨ (F.ρ[j]? = some s ∧ j ∉ ws) := by
    intro ws
    induction ws with
    | nil => exact fun h => .inr ⟨h, by simp⟩
    | cons w ws ih =>
      intro h
      unfold wipeE at h
      by_cases e : w = j
      · subst e
        rw [List.getElem?_set] at h
        simp only [if_true] at h
        split at h
        · cases h; exact .inl rfl
        · cases h
      · rw [List.getElem?_set_ne e] at h
        rcases ih h with q | ⟨q, q2⟩
        · exact .inl q
        · exact .inr ⟨q, by simp only [List.mem_cons, not_or]; exact ⟨fun z => e z.symm, q2⟩⟩
  rcases hw ws h with rfl | ⟨q, hj⟩
  · trivial
  · have e : (L2.wipe σ vs)[j]? = σ[j]? := by
      have : j ∉ vs := fun z => hj (hs j z)
      clear hs h hw
      induction vs with
      | nil => rfl
      | cons v vs ih =>
        unfold L2.wipe
        rw [List.getElem?_set_ne (fun z => this (by simp [z])), ih (fun z => this (by simp [z]))]
    show SlR g F.μ F.α H _ ((L2.wipe σ vs)[j]?.join) s
    rw [e]
    exact r.slots j s q
end
end Mini
end
section
set_option Elab.async false
set_option linter.all false
set_option maxRecDepth 100000
set_option maxHeartbeats 2000000
/-! # Mini: list comprehensions -/
namespace Mini
open PySem L2 PySem.Spec PyProof.Rows
def EB : XK := fun _ _ _ => False
section
variable {g : G} {F F' : Fr} {H H' : Hp}
theorem AtB.gen (m : Mono F.μ F'.μ F.α F'.α H H') (k : ∀ a, some a ∈ F.ω → some a ∈ F'.ω ∧ ∀ o, H a = some o → NT o → H' a = some o) {d : D} {v : V} (h : AtB g F H d v) : AtB g F' H' d v := by
  rcases h with h | ⟨a, e, w, ⟨l', vs, e', h, hl⟩ | ⟨ks, us, kvs, e', h, hk, hl⟩⟩
  · exact .inl (m.at _ _ h)
  · exact .inr ⟨a, e, (k a w).1, .inl ⟨l', vs, e', (k a w).2 _ h (fun _ => nofun), m.ats _ _ hl⟩⟩
  · exact .inr ⟨a, e, (k a w).1, .inr ⟨ks, us, kvs, e', (k a w).2 _ h (fun _ => nofun), hk, m.ats _ _ hl⟩⟩
theorem AtsB.gen (m : Mono F.μ F'.μ F.α F'.α H H') (k : ∀ a, some a ∈ F.ω → some a ∈ F'.ω ∧ ∀ o, H a = some o → NT o → H' a = some o) : ∀ {ds : List D} {vs : List V}, AtsB g F H ds vs → AtsB g F' H' ds vs
  | [], _, h => h
  | _ :: _, _, ⟨v, r, e, h1, h2⟩ => ⟨v, r, e, h1.gen m k, AtsB.gen m k h2⟩
theorem AXs.gen {b : Bool} (m : Mono F.μ F'.μ F.α F'.α H H') (k : ∀ a, some a ∈ F.ω → some a ∈ F'.ω ∧ ∀ o, H a = some o → NT o → H' a = some o) {ds : List D} {vs : List V} (h : AXs g b F H ds vs) : AXs g b F' H' ds vs := by
  cases b with
  | true => exact AtsB.gen m k h
  | false => exact m.ats _ _ h
theorem Nx.upd {α α' : List Addr} {p : Addr} {o : HO} (n : Nx α H α' H') (hp : H p = none) : Nx α H α' (upd H' p o) := by
  refine ⟨fun a o' h h' t => ?_, fun a h => ?_, n.pre⟩
  · rw [upd_ne (ne_of_none h hp)]
    exact n.keep a o' h h' t
  · obtain ⟨u, q, t⟩ := n.there a h
    exact ⟨u, by rw [upd_ne (h.ne hp)]; exact q, t⟩
theorem mono_chg {p : Addr} {o : HO} : Mono (F.plus p).μ (F.plus p).μ F.α F.α H (L2.upd H p o) :=
  ⟨fun a o' h n _ => by rw [upd_ne (fun e => n (.inl (by rw [e]; exact .inr rfl)))]; exact h, fun _ _ h => h, fun _ _ h => h⟩
end
theorem compL_ok {turn : D → Store → R (Option D)} : ∀ (l : List D) (st : Store), (∃ ds st', compL turn l st = .ok ds st') ∨ compL turn l st = .bad
  | [], st => .inl ⟨_, _, rfl⟩
  | d :: r, st => by
    unfold compL
    split
    · split
      · exact .inl ⟨_, _, rfl⟩
      · exact .inr rfl
    · exact .inr rfl
section
variable {g : G} {C : Calls} {EW : XK} {X : Cx} {m : E}
theorem wipe_eq {σ σ' : L2.St} {vs : List Nat} (hl : σ'.length = σ.length) (h : ∀ i, i ∉ vs → σ'[i]? = σ[i]?) : L2.wipe σ' vs = L2.wipe σ vs := by
  refine List.ext_getElem? fun i => ?_
  have key : ∀ (τ : L2.St) (ws : List Nat), (L2.wipe τ ws)[i]? = if i ∈ ws then (if i < τ.length then some none else none) else τ[i]? := by
    intro τ ws
    induction ws with
    | nil => simp [L2.wipe]
    | cons w ws ih =>
      unfold L2.wipe
      rw [List.getElem?_set, ih, wipe_len]
      by_cases e : w = i
      · subst e
        simp
      · have e' : ¬ i = w := fun z => e z.symm
        simp [e, e']
  rw [key, key, hl]
  split
  · rfl
  · rename_i hi
    exact h i hi
/-- one turn -/
def turnC (P : Prog) (C : Calls) (t : T) (e c : E) (ρ : Env) (d : D) (st : Store) : R (Option D) :=
  match asgN t d (wipeE ρ t.names) with
  | some ρ1 => (ev P C c ρ1 st).bind fun b st => match b with
    | .bl true => (ev P C e ρ1 st).bind fun v st => .ok (some v) st
    | .bl false => .ok Option.none st
    | _ => .bad
  | Option.none => .bad
theorem ev_comp {P : Prog} {t : T} {e c : E} {ik : ItK} {src : List E} {ρ : Env} {st : Store} : ev P C (.comp e t ik src c) ρ st = (evs P C src ρ st).bind fun ds st => match itD ik ds with
    | some items => (compL (turnC P C t e c ρ) items st).bind fun vs st => if vs.length ≤ maxLen then .ok (.lst vs) st else .bad
    | Option.none => .bad := by
  simp only [ev]
  rfl
theorem lc_of {t : T} {e c : E} {ik : ItK} {src : List E} {b : Bool} {vs : List Nat} (h1 : ∀ i, i ∈ vs → i ∈ t.names) (h2 : ∀ i, i ∈ t.names → i ∈ vs) {σ : L2.St} {H : Hp} {Q : VK} (h : tN g C EW (.comp e t ik src c) σ H Q) :
    tLc (tIt g C EW b ik src) (tG g t) (tT g C EB c) (tE g C EB e) vs σ H Q := by
  obtain ⟨F, r, p⟩ := h
  rw [ev_comp] at p
  refine ⟨F, r, p.bind.mono fun F1 H1 ds ⟨n1, r1, e1, p1⟩ => ?_⟩
  have hρ : F1.ρ = F.ρ := by obtain ⟨_, _, rfl⟩ := e1; rfl
  rw [← hρ] at p1
  clear e1 p r hρ
  cases hi : itD ik ds with
  | none => rw [hi] at p1; exact p1.elim
  | some items =>
    rw [hi] at p1
    simp only at p1
    refine ⟨items, rfl, fun us hus J wk D hD => ?_⟩
    rcases compL_ok (turn := turnC g.PR C t e c F1.ρ) items F1.st with ⟨ds2, st2, hr⟩ | hr
    case inr => rw [hr] at p1; exact p1.elim
    rw [hr] at p1
    simp only [R.bind] at p1
    split at p1
    case isFalse => exact p1.elim
    rename_i hlen
    have neD : ∀ a, Ob H1 a → a ≠ D := fun a h' => h'.ne hD
    have h0 : ¬ Ob F1.H0 D := fun z => not_ob hD (r1.ent.there D z)
    refine ⟨fun i m H' => ∃ αi sti acc accV rest, m = items.length - i ∧ i ≤ items.length ∧ Nx F1.α H1 αi H' ∧ Rep g ((F1.to αi sti).plus D) σ H' ∧ H' D = some (.lst accV) ∧ Ats g ((F1.to αi sti).plus D).μ αi H' acc accV ∧
      compL (turnC g.PR C t e c F1.ρ) (items.drop i) sti = .ok rest st2 ∧ ds2 = acc ++ rest, ⟨items.length, F1.α, F1.st, [], [], ds2, by simp, Nat.zero_le _, Nx.new hD, r1.plusNew hD, upd_same, rfl, by simpa using hr, rfl⟩, ?_⟩
    rintro i m H' ⟨αi, sti, acc, accV, rest, rfl, hi, nx, rp, hDl, hacc, hcl, hds⟩
    have S : AXs g b ((F1.to αi sti).plus D) H' ds us := by
      refine AXs.gen (F' := (F1.to αi sti).plus D) ⟨fun a o h n q => nx.keep a o h (fun z => n (.inr (.inl z))) q, fun a h z => ?_, fun k a h => (Fr.mono (F := F1) (st' := sti) nx).pre k a h⟩ (fun a ha => ⟨ha, fun o h q => nx.keep a o h (r1.ow0 a ha).2.2 q⟩) hus
      exact (Fr.mono (F := F1) (st' := sti) nx).less a h ((Fr.mu_plus z).elim id fun e => absurd e (neD a h))
    by_cases hlt : i < items.length
    · right
      have hd : items[i]? = some items[i] := List.getElem?_eq_getElem hlt
      rw [List.drop_eq_getElem_cons hlt] at hcl
      unfold compL at hcl
      obtain ⟨hgo, hy⟩ := wk.go _ σ H' rp S i _ hd
      refine ⟨hgo, fun H'' => ∃ αi sti acc accV rest, items.length - (i + 1) = items.length - (i + 1) ∧ i + 1 ≤ items.length ∧ Nx F1.α H1 αi H'' ∧ Rep g ((F1.to αi sti).plus D) σ H'' ∧ H'' D = some (.lst accV) ∧ Ats g ((F1.to αi sti).plus D).μ αi H'' acc accV ∧
        compL (turnC g.PR C t e c F1.ρ) (items.drop (i + 1)) sti = .ok rest st2 ∧ ds2 = acc ++ rest, fun H'' w => ⟨items.length - (i + 1), by omega, w⟩, fun x H2 y => ?_⟩
      obtain ⟨n2, t2, hx⟩ := hy x H2 y
      have rp2 := rp.later n2 t2
      split at hcl
      case h_2 => cases hcl
      rename_i o st3 ht
      split at hcl
      case h_2 => cases hcl
      rename_i rest' st4 hc2
      simp only [R.ok.injEq] at hcl
      obtain ⟨hrest, rfl⟩ := hcl
      unfold turnC at ht
      split at ht
      case h_2 => cases ht
      rename_i ρ1 hρ1
      refine ⟨_, _, rp2.wipe h1, hx, ρ1, hρ1, fun σ2 r2 l2 a2 => ⟨?_, ?_⟩⟩
      · rw [wipe_eq (σ' := σ2) (σ := L2.wipe σ vs) l2 fun i hi => a2 i fun z => hi (h2 i z)]
        refine wipe_eq (wipe_len vs) fun i hi => ?_
        have key : ∀ (ws : List Nat), i ∉ ws → (L2.wipe σ ws)[i]? = σ[i]? := by
          intro ws
          induction ws with
          | nil => exact fun _ => rfl
          | cons w ws ih =>
            intro hw
            simp only [List.mem_cons, not_or] at hw
            unfold L2.wipe
            rw [List.getElem?_set_ne (fun z => hw.1 z.symm), ih hw.2]
        exact key vs hi
      · refine ⟨_, r2, ?_⟩
        show PostK g EB _ σ2 H2 _ (ev g.PR C c ρ1 sti)
        cases hce : ev g.PR C c ρ1 sti with
        | exc _ _ _ => rw [hce] at ht; cases ht
        | bad => rw [hce] at ht; cases ht
        | ok bb st5 =>
          rw [hce] at ht
          simp only [R.bind] at ht
          intro H3 α3 n3 r3
          have nn : Nx αi H' α3 H3 := (n2.widen).trans n3
          have dα : D ∉ αi := (rp.nu D (.inr rfl)).2.1
          split at ht
          · -- true
            refine ⟨true, rfl, iteT ⟨_, r3, ?_⟩⟩
            show PostK g EB _ σ2 H3 _ (ev g.PR C e ρ1 st5)
            cases hee : ev g.PR C e ρ1 st5 with
            | exc _ _ _ => rw [hee] at ht; cases ht
            | bad => rw [hee] at ht; cases ht
            | ok v st6 =>
              rw [hee] at ht
              simp only [R.ok.injEq] at ht
              obtain ⟨rfl, rfl⟩ := ht
              intro H4 α4 n4 r4 y hyv
              have n24 : Nx αi H2 α4 H4 := n3.trans n4
              have n14 : Nx αi H' α4 H4 := nn.trans n4
              have rb : Rep g ((F1.to α4 st6).plus D) σ H4 := Rep.back (F := (F1.to αi sti).plus D) (F' := { ((F1.to α4 st6).plus D) with ρ := ρ1 }) rp2 n24 r4 (fun _ h => h)
              have hD4 : H4 D = some (.lst accV) := n14.keep D _ hDl dα (fun _ => nofun)
              have hacc4 : Ats g ((F1.to α4 st6).plus D).μ α4 H4 acc accV := (Fr.mono (F := (F1.to αi sti).plus D) (st' := st6) n14).ats _ _ hacc
              simp only at hrest
              have hlenA : accV.length < sizeLine := by
                rw [← hacc.length, sizeLine_eq]
                have : acc.length ≤ ds2.length := by rw [hds, List.length_append]; omega
                have : maxLen = 1000000 := rfl
                omega
              have hchg := mono_chg (F := F1.to α4 st6) (H := H4) (p := D) (o := .lst (accV ++ [y]))
              refine ⟨accV, hD4, hlenA, α4, st6, acc ++ [v], accV ++ [y], rest', rfl, hlt, ?_, rb.chg h0 hD4 ⟨fun _ => nofun, fun _ => nofun⟩, upd_same, ?_, hc2, ?_⟩
              · exact (nx.trans n14).upd hD
              · exact (hchg.ats _ _ hacc4).append (Ats.one (hchg.at _ _ hyv))
              · rw [hds, ← hrest, List.append_assoc]
                rfl
          · -- false
            cases ht
            refine ⟨false, rfl, iteF ⟨α3, st3, acc, accV, rest, rfl, hlt, nx.trans nn, Rep.back (F := (F1.to αi sti).plus D) (F' := { ((F1.to α3 st3).plus D) with ρ := ρ1 }) rp2 n3 r3 (fun _ h => h), nn.keep D _ hDl dα (fun _ => nofun), (Fr.mono (F := (F1.to αi sti).plus D) (st' := st3) nn).ats _ _ hacc, ?_, hds⟩⟩
            rw [← hrest]
            exact hc2
          · cases ht
    · left
      have ei : i = items.length := by omega
      subst ei
      rw [List.drop_length] at hcl
      unfold compL at hcl
      simp only [R.ok.injEq] at hcl
      obtain ⟨rfl, rfl⟩ := hcl
      rw [List.append_nil] at hds
      subst hds
      refine ⟨wk.stop _ σ H' rp S, p1 H' αi nx rp.unplus D ?_ (fun z => ?_) rp (.inl ⟨_, accV, rfl, hDl, hacc⟩)⟩
      · exact fun z => not_ob hD (n1.there D z)
      obtain ⟨z1, z2, z3⟩ := rp.nu D (.inr rfl)
      rcases z with z | z | z
      · exact not_ob hD (r1.nu D z).1
      · exact z2 z
      · exact z3 z
end
end Mini
end
section
set_option Elab.async false
set_option linter.all false
set_option maxRecDepth 100000
set_option maxHeartbeats 2000000
/-! # Mini: statements -/
namespace Mini
open PySem L2 PySem.Spec PyProof.Rows
/-- from one state of a frame to a later one -/
structure Lt (F : Fr) (H : Hp) (F' : Fr) (H' : Hp) : Prop where
  a0 : F'.α0 = F.α0
  h0 : F'.H0 = F.H0
  nu : F'.ν = F.ν
  me : F'.me = F.me
  keep : ∀ a o, H a = some o → ¬ F.μ a → NT o → H' a = some o
  less : ∀ a, Ob H a → F'.μ a → F.μ a
  pre : ∀ (k : Nat) a, F.α[k]? = some a → F'.α[k]? = some a
  there : ∀ a, Ob H a → Ob H' a
section
variable {F F' F'' : Fr} {H H' H'' : Hp}
theorem Lt.mono (l : Lt F H F' H') : Mono F.μ F'.μ F.α F'.α H H' := ⟨l.keep, l.less, l.pre⟩
theorem Lt.trans (l : Lt F H F' H') (m : Lt F' H' F'' H'') : Lt F H F'' H'' := by
  refine ⟨m.a0.trans l.a0, m.h0.trans l.h0, m.nu.trans l.nu, m.me.trans l.me, fun a o h n t => ?_, fun a h z => l.less a h (m.less a (l.there a h) z), fun k a h => m.pre k a (l.pre k a h), fun a h => m.there a (l.there a h)⟩
  exact m.keep a o (l.keep a o h n t) (fun z => n (l.less a (Ob.of h t) z)) t
theorem Lt.of {α' : List Addr} {st' : Store} (n : Nx F.α H α' H') : Lt F H (F.to α' st') H' :=
  have m := Fr.mono (F := F) (st' := st') n
  ⟨rfl, rfl, rfl, rfl, m.keep, m.less, m.pre, n.there⟩
theorem Lt.slots {ρ : Env} : Lt F H { F with ρ := ρ } H := ⟨rfl, rfl, rfl, rfl, fun _ _ h _ _ => h, fun _ _ z => z, fun _ _ h => h, fun _ h => h⟩
theorem Lt.refl : Lt F H F H := ⟨rfl, rfl, rfl, rfl, fun _ _ h _ _ => h, fun _ _ z => z, fun _ _ h => h, fun _ h => h⟩
end
section
variable (g : G) (C : Calls) (EW : XK) (w : Nat)
/-- what must hold behind a statement that the evaluator has answered -/
def PostS (Dn : Ends) (F : Fr) (H : Hp) : Out → Prop
  | .nx ρ st => ∀ F' σ' H', Lt F H F' H' → F'.ρ = ρ → F'.st = st → Rep g F' σ' H' → Dn.nx σ' H'
  | .rt d st => ∀ F' σ' H' v, Lt F H F' H' → F'.st = st → Rep g F' σ' H' → At g F'.μ F'.α H' d v → Dn.rt v H'
  | .exc c d st => ∀ F' σ' H' v dx, Lt F H F' H' → F'.st = st → Rep g F' σ' H' → At g F'.μ F'.α H' d v → H' dx = some (.xd [("value", v)]) → EW (.ref (g.AD.e c)) (some dx) H'
  | .bad => False
def tS (m : S) : TS := fun Dn σ H => ∃ F, Rep g F σ H ∧ PostS g EW Dn F H (ex g.PR C w m F.ρ F.st)
def tSs (m : List S) : TS := fun Dn σ H => ∃ F, Rep g F σ H ∧ PostS g EW Dn F H (exs g.PR C w m F.ρ F.st)
end
section
variable {g : G} {C : Calls} {EW : XK} {w : Nat} {Dn : Ends} {F : Fr} {σ : L2.St} {H : Hp}
theorem PostS.shift {F1 : Fr} {H1 : Hp} {o : Out} (l : Lt F H F1 H1) (p : PostS g EW Dn F H o) : PostS g EW Dn F1 H1 o := by
  cases o with
  | nx ρ st => exact fun F' σ' H' l' => p F' σ' H' (l.trans l')
  | rt d st => exact fun F' σ' H' v l' => p F' σ' H' v (l.trans l')
  | exc c d st => exact fun F' σ' H' v dx l' => p F' σ' H' v dx (l.trans l')
  | bad => exact p
/-- one after the other -/
theorem PostS.bind {o : Out} {f : Env → Store → Out} {Dn' : Ends} (p : PostS g EW Dn F H (o.bind f)) (hn : Dn'.nx = fun σ' H' => ∃ F', Lt F H F' H' ∧ Rep g F' σ' H' ∧ PostS g EW Dn F' H' (f F'.ρ F'.st)) (hr : Dn'.rt = Dn.rt) : PostS g EW Dn' F H o := by
  cases o with
  | nx ρ st =>
    intro F' σ' H' l e1 e2 r
    rw [hn]
    refine ⟨F', l, r, PostS.shift l ?_⟩
    rw [e1, e2]
    exact p
  | rt d st => rw [show PostS g EW Dn' F H (.rt d st) = PostS g EW Dn F H (.rt d st) by unfold PostS; simp only [hr]]; exact p
  | exc c d st => exact p
  | bad => exact p
/-- from an expression's answer -/
theorem PostS.out {β : Type} {r : R β} {f : β → Store → Out} (hr : Rep g F σ H) (p : PostS g EW Dn F H (r.out f)) : PostK g EW F σ H (fun F1 H1 x => Lt F H F1 H1 ∧ Rep g F1 σ H1 ∧ (∃ α' st', F1 = F.to α' st') ∧ PostS g EW Dn F1 H1 (f x F1.st)) r := by
  cases r with
  | ok b st => exact fun H' α' n r => ⟨Lt.of n, r, ⟨_, _, rfl⟩, PostS.shift (Lt.of n) p⟩
  | exc c d st => exact fun H' α' v dx n r a h => p (F.to α' st) σ H' v dx (Lt.of n) rfl r a h
  | bad => exact p
theorem PostS.opt {α : Type} {o : Option α} {f : α → Out} (p : PostS g EW Dn F H (Out.ofOpt o f)) : ∃ a, o = some a ∧ PostS g EW Dn F H (f a) := by
  cases o with
  | none => exact p.elim
  | some a => exact ⟨a, rfl, p⟩
theorem PostS.nx {ρ : Env} {st : Store} (p : PostS g EW Dn F H (.nx ρ st)) {F' : Fr} {σ' : L2.St} {H' : Hp} (l : Lt F H F' H') (r : Rep g F' σ' H') (e1 : F'.ρ = ρ) (e2 : F'.st = st) : Dn.nx σ' H' := p F' σ' H' l e1 e2 r
variable {X : Cx} {a b c : Expr} {ma mb mc : E} {pos : Pos}
theorem ss_nil : PSs X [] (tSs g C EW w []) := PSs_imp pss_nil fun Dn σ H ⟨F, r, p⟩ => by
  simp only [exs] at p
  exact p.nx Lt.refl r rfl rfl
theorem ss_cons {s : Stmt} {rest : List Stmt} {m : S} {ms : List S} (h1 : PS X s (tS g C EW w m)) (h2 : PSs X rest (tSs g C EW w ms)) : PSs X (s :: rest) (tSs g C EW w (m :: ms)) := by
  refine PSs_imp (pss_cons h1 h2) fun Dn σ H ⟨F, r, p⟩ => ?_
  simp only [exs] at p
  refine ⟨F, r, ?_⟩
  refine PostS.bind (Dn' := { Dn with nx := fun σ' H' => ∃ F', Lt F H F' H' ∧ Rep g F' σ' H' ∧ PostS g EW Dn F' H' (exs g.PR C w ms F'.ρ F'.st) }) p rfl rfl |> fun q => ?_
  revert q
  cases hx : ex g.PR C w m F.ρ F.st with
  | nx ρ st => exact fun q F' σ' H' l e1 e2 r' => let ⟨F'', _, r'', p''⟩ := q F' σ' H' l e1 e2 r'; ⟨F'', r'', p''⟩
  | rt d st => exact fun q => q
  | exc c d st => exact fun q => q
  | bad => exact fun q => q
end
/-! ### what a name owns -/
theorem set_sub : ∀ (ω : List (Option Addr)) (i : Nat), ((ω.set i none).filterMap id).Sublist (ω.filterMap id)
  | [], _ => List.Sublist.refl _
  | none :: ω, 0 => List.Sublist.refl _
  | some a :: ω, 0 => List.sublist_cons_self _ _
  | none :: ω, i + 1 => set_sub ω i
  | some a :: ω, i + 1 => (set_sub ω i).cons_cons a
theorem nodup_set {ω : List (Option Addr)} {i : Nat} (h : (ω.filterMap id).Nodup) : ((ω.set i none).filterMap id).Nodup := h.sublist (set_sub ω i)
theorem mem_fm {ω : List (Option Addr)} {a : Addr} (h : some a ∈ ω) : a ∈ ω.filterMap id := List.mem_filterMap.mpr ⟨_, h, rfl⟩
theorem of_fm {ω : List (Option Addr)} {a : Addr} (h : a ∈ ω.filterMap id) : some a ∈ ω := by
  obtain ⟨x, hx, e⟩ := List.mem_filterMap.mp h
  cases e
  exact hx
theorem nodup_at : ∀ {ω : List (Option Addr)} {i j : Nat} {a : Addr}, (ω.filterMap id).Nodup → ω[i]? = some (some a) → ω[j]? = some (some a) → i = j := by
  intro ω
  induction ω with
  | nil => intro i j a _ h; simp at h
  | cons o ω ih =>
    intro i j a hn h h'
    have hn' : (ω.filterMap id).Nodup := by
      cases o with
      | none => exact hn
      | some b => exact (List.nodup_cons.mp hn).2
    cases i with
    | zero =>
      cases j with
      | zero => rfl
      | succ j =>
        simp at h h'
        subst h
        exact absurd (mem_fm (List.mem_of_getElem? h')) (List.nodup_cons.mp hn).1
    | succ i =>
      cases j with
      | zero =>
        simp at h h'
        subst h'
        exact absurd (mem_fm (List.mem_of_getElem? h)) (List.nodup_cons.mp hn).1
      | succ j => exact congrArg Nat.succ (ih hn' (by simpa using h) (by simpa using h'))
theorem mem_set {α : Type} {l : List α} {i : Nat} {x y : α} (h : x ∈ l.set i y) : x = y ∨ x ∈ l := by
  rcases List.mem_or_eq_of_mem_set h with h | h
  · exact .inr h
  · exact .inl h
theorem nodup_own : ∀ {ω : List (Option Addr)} {i : Nat} {p : Addr}, (ω.filterMap id).Nodup → some p ∉ ω → ((ω.set i (some p)).filterMap id).Nodup := by
  intro ω
  induction ω with
  | nil => intro i p _ _; simp
  | cons o ω ih =>
    intro i p hn hp
    simp only [List.mem_cons, not_or] at hp
    have hn' : (ω.filterMap id).Nodup := by
      cases o with
      | none => exact hn
      | some b => exact (List.nodup_cons.mp hn).2
    cases i with
    | zero => exact List.nodup_cons.mpr ⟨fun z => hp.2 (of_fm z), hn'⟩
    | succ i =>
      have q := ih (i := i) hn' hp.2
      cases o with
      | none => exact q
      | some b =>
        refine List.nodup_cons.mpr ⟨fun z => ?_, q⟩
        rcases mem_set (of_fm z) with e | e
        · cases e; exact hp.1 rfl
        · exact (List.nodup_cons.mp hn).1 (mem_fm e)
section
variable {g : G} {F : Fr} {σ : L2.St} {H : Hp}
/-- the place i: what it owns is owned by p now, and all else stays -/
theorem Rep.slot {i : Nat} {s : Slot} {w : Option Addr} {σ' : L2.St} {ν' : Addr → Prop} (r : Rep g { F with ν := ν' } σ H) (hi : i < F.ρ.length) (hw : ∀ p, w = some p → ¬ Ob F.H0 p ∧ Ob H p ∧ p ∉ F.α ∧ some p ∉ F.ω ∧ ¬ F.ν p) (hν : ∀ a, F.ν a → ν' a) (hl : σ'.length = σ.length) (hσ : ∀ j, j ≠ i → σ'[j]? = σ[j]?)
    (m : Mono ({ F with ν := ν' } : Fr).μ ({ F with ω := F.ω.set i w, ρ := F.ρ.set i s } : Fr).μ F.α F.α H H) (hs : SlR g ({ F with ω := F.ω.set i w, ρ := F.ρ.set i s } : Fr).μ F.α H w (σ'[i]?.join) s) (hI : ∀ c fs, s ≠ .ownI c fs := by exact fun _ _ => nofun) : Rep g { F with ω := F.ω.set i w, ρ := F.ρ.set i s } σ' H := by
  have mem : ∀ a, some a ∈ F.ω.set i w → some a ∈ F.ω ∨ w = some a := fun a h => (mem_set h).elim (fun e => .inr e.symm) .inl
  have ln : σ.length = F.ρ.length := r.len.symm
  have lω : F.ω.length = F.ρ.length := r.wlen
  refine ⟨r.ent, fun a h => ?_, r.al0, ?_, r.nda, fun a h => ⟨(r.nu a (hν a h)).1, (r.nu a (hν a h)).2.1, fun z => ?_⟩, r.tabs, r.alen, fun k o h => ?_, by simp [hl, ln], by simp [lω], fun j s' h => ?_, fun j c fs h => ?_⟩
  · rcases mem a h with h | h
    · exact r.ow0 a h
    · exact ⟨(hw a h).1, (hw a h).2.1, (hw a h).2.2.1⟩
  · cases w with
    | none => exact nodup_set r.nd
    | some p => exact nodup_own r.nd (hw p rfl).2.2.2.1
  · rcases mem a z with z | z
    · exact (r.nu a (hν a h)).2.2 z
    · exact (hw a z).2.2.2.2 h
  · obtain ⟨a, ha, q⟩ := r.objs k o h
    refine ⟨a, ha, ?_⟩
    cases o with
    | lst l =>
      obtain ⟨vs, h1, h2⟩ := q
      exact ⟨vs, h1, m.ats _ _ h2⟩
    | ins c fs =>
      obtain ⟨dx, vs, h1, hl, h2⟩ := q
      exact ⟨dx, vs, h1, hl, m.ats _ _ h2⟩
  · by_cases e : i = j
    · subst e
      have h : (F.ρ.set i s)[i]? = some s' := h
      simp only [List.getElem?_set_self hi, Option.some.injEq] at h
      subst h
      show SlR g _ _ _ ((F.ω.set i w)[i]?.join) _ s
      rw [List.getElem?_set_self (by rw [lω]; exact hi)]
      exact hs
    · have h : (F.ρ.set i s)[j]? = some s' := h
      rw [List.getElem?_set_ne e] at h
      have q := r.slots j s' h
      show SlR g _ _ _ ((F.ω.set i w)[j]?.join) _ s'
      rw [List.getElem?_set_ne e, hσ j (fun z => e z.symm)]
      exact q.mono m fun a o _ h _ => h
  · by_cases e : i = j
    · subst e
      have h : (F.ρ.set i s)[i]? = some (.ownI c fs) := h
      simp only [List.getElem?_set_self hi, Option.some.injEq] at h
      exact absurd h (hI c fs)
    · have h : (F.ρ.set i s)[j]? = some (.ownI c fs) := h
      rw [List.getElem?_set_ne e] at h
      show ((F.ω.set i w)[j]?.join) = _
      rw [List.getElem?_set_ne e]
      exact r.me j c fs h
theorem mu_set {i : Nat} {w : Option Addr} {ρ : Env} {a : Addr} (h : ({ F with ω := F.ω.set i w, ρ := ρ } : Fr).μ a) : F.μ a ∨ w = some a := by
  rcases h with z | z | z
  · exact .inl (.inl z)
  · exact .inl (.inr (.inl z))
  · rcases mem_set (show some a ∈ F.ω.set i w from z) with e | e
    · exact .inr e.symm
    · exact .inl (.inr (.inr e))
/-- what is owned is given free -/
theorem Rep.free (r : Rep g F σ H) {i : Nat} {a : Addr} {d : D} (hi : i < F.ρ.length) (ha : F.ω[i]?.join = some a) (hv : ∀ μ' : Addr → Prop, ¬ μ' a → Mono F.μ μ' F.α F.α H H → ∃ v, σ[i]?.join = some v ∧ At g μ' F.α H d v) :
    Rep g { F with ω := F.ω.set i none, ρ := F.ρ.set i (.val d) } σ H := by
  have m : Mono F.μ ({ F with ω := F.ω.set i none, ρ := F.ρ.set i (.val d) } : Fr).μ F.α F.α H H := ⟨fun _ _ h _ _ => h, fun b _ z => (mu_set z).elim id (fun e => nomatch e), fun _ _ h => h⟩
  refine Rep.slot (ν' := F.ν) r hi (fun _ => nofun) (fun _ h => h) rfl (fun _ _ => rfl) m (hv _ (fun z => ?_) m)
  have mem := join_mem ha
  rcases z with z | z | z
  · exact (r.nu a z).2.2 mem
  · exact (r.ow0 a mem).2.2 z
  · have z : some a ∈ F.ω.set i none := z
    obtain ⟨j, hj, e⟩ := List.mem_iff_getElem.mp z
    rw [List.getElem_set] at e
    split at e
    · cases e
    · rename_i hne
      have hj' : j < F.ω.length := by simpa using hj
      have e1 : F.ω[i]? = some (some a) := by
        cases q : F.ω[i]? with
        | none => rw [q] at ha; cases ha
        | some o => rw [q] at ha; exact congrArg some ha
      have e2 : F.ω[j]? = some (some a) := by rw [List.getElem?_eq_getElem hj', e]
      exact hne (nodup_at r.nd e1 e2)
/-- a new thing is owned -/
theorem Rep.own {p : Addr} (r : Rep g (F.plus p) σ H) {i : Nat} {s : Slot} (hi : i < F.ρ.length) (h0 : ¬ Ob F.H0 p) (hp : ¬ F.μ p)
    (hs : ∀ μ' : Addr → Prop, Mono (F.plus p).μ μ' F.α F.α H H → SlR g μ' F.α H (some p) (some (.ref p)) s) (hI : ∀ c fs, s ≠ .ownI c fs := by exact fun _ _ => nofun) : Rep g { F with ω := F.ω.set i (some p), ρ := F.ρ.set i s } (σ.set i (some (.ref p))) H := by
  have m : Mono (F.plus p).μ ({ F with ω := F.ω.set i (some p), ρ := F.ρ.set i s } : Fr).μ F.α F.α H H := ⟨fun _ _ h _ _ => h, fun b _ z => (mu_set z).elim Fr.plus_mu (fun e => by cases e; exact .inl (.inr rfl)), fun _ _ h => h⟩
  refine Rep.slot (F := F) (ν' := fun a => F.ν a ∨ a = p) r hi (fun q e => ?_) (fun _ h => .inl h) (by simp) (fun j hj => List.getElem?_set_ne (fun e => hj e.symm)) m ?_ hI
  · cases e
    exact ⟨h0, (r.nu p (.inr rfl)).1, (r.nu p (.inr rfl)).2.1, (r.nu p (.inr rfl)).2.2, fun z => hp (.inl z)⟩
  · rw [List.getElem?_set_self (by rw [← r.len]; exact hi)]
    exact hs _ m
theorem Lt.own {F' : Fr} {H' : Hp} {p : Addr} {i : Nat} {s : Slot} (l : Lt F H F' H') (hp : ¬ Ob H p) : Lt F H { F' with ω := F'.ω.set i (some p), ρ := F'.ρ.set i s } H' :=
  ⟨l.a0, l.h0, l.nu, l.me, l.keep, fun a h z => (mu_set z).elim (l.less a h) (fun e => by cases e; exact absurd h hp), l.pre, l.there⟩
end
section
variable {g : G} {C : Calls} {EW : XK} {w : Nat} {Dn : Ends} {F : Fr} {σ : L2.St} {H : Hp} {X : Cx} {a b c : Expr} {ma mb mc : E} {pos : Pos}
/-- what changes nothing but the frame's view -/
theorem ss_frz {rest : List Stmt} {i : Nat} {ms : List S} (h : PSs X rest (tSs g C EW w ms)) : PSs X rest (tSs g C EW w (.frz i :: ms)) := by
  refine PSs_imp h fun Dn σ H ⟨F, r, p⟩ => ?_
  simp only [exs, ex, Out.bind] at p
  unfold frzE at p
  have key : ∀ {ρ' : Env}, PostS g EW Dn F H (exs g.PR C w ms ρ' F.st) → PostS g EW Dn { F with ω := F.ω.set i none, ρ := ρ' } H (exs g.PR C w ms ρ' F.st) := fun {ρ'} p =>
    PostS.shift (F := F) (H := H) ⟨rfl, rfl, rfl, rfl, fun _ _ h _ _ => h, fun b _ z => (mu_set z).elim id (fun e => nomatch e), fun _ _ h => h, fun _ h => h⟩ p
  split at p
  · rename_i l hs
    obtain ⟨a, vs, h1, h2, h3, h4⟩ := r.slots i _ hs
    exact ⟨_, r.free (d := .lst l) (List.getElem?_eq_some_iff.mp hs).1 h1 fun μ' n m => ⟨.ref a, h2, a, vs, rfl, ⟨h3, n⟩, m.ats _ _ h4⟩, key p⟩
  · rename_i ks us hs
    obtain ⟨a, kvs, h1, h2, h3, h4, h5⟩ := r.slots i _ hs
    exact ⟨_, r.free (d := .dic ks us) (List.getElem?_eq_some_iff.mp hs).1 h1 fun μ' n m => ⟨.ref a, h2, a, kvs, rfl, n, h3, h4, m.ats _ _ h5⟩, key p⟩
  · exact ⟨F, r, p⟩
end
end Mini
end
section
set_option Elab.async false
set_option linter.all false
set_option maxRecDepth 100000
set_option maxHeartbeats 2000000
/-! # Mini: statements, one by one -/
namespace Mini
open PySem L2 PySem.Spec PyProof.Rows
mutual
def T.pl : T → Bool
  | .nm _ => true
  | .tup ts => T.pls ts
  | _ => false
def T.pls : List T → Bool
  | [] => true
  | t :: ts => T.pl t && T.pls ts
end
mutual
theorem asg_pl {P : Prog} {st : Store} : ∀ (t : T) (d : D) (ρ : Env), t.pl = true → asg P t d ρ st = (asgN t d ρ).map fun ρ1 => (ρ1, st)
  | .nm i, d, ρ, _ => by
    simp only [asg, asgN]
    split <;> rfl
  | .tup ts, d, ρ, h => by
    cases d with
    | tup l =>
      simp only [asg, asgN]
      exact asgs_pl ts l ρ (by simpa [T.pl] using h)
    | _ => rfl
  | .own _, _, _, h => by simp [T.pl] at h
  | .fld _ _, _, _, h => by simp [T.pl] at h
theorem asgs_pl {P : Prog} {st : Store} : ∀ (ts : List T) (ds : List D) (ρ : Env), T.pls ts = true → asgs P ts ds ρ st = (asgNs ts ds ρ).map fun ρ1 => (ρ1, st)
  | [], [], _, _ => rfl
  | [], _ :: _, _, _ => rfl
  | _ :: _, [], _, _ => rfl
  | t :: ts, d :: ds, ρ, h => by
    have h' : t.pl = true ∧ T.pls ts = true := by simpa [T.pls] using h
    simp only [asgs, asgNs, asg_pl t d ρ h'.1]
    cases e : asgN t d ρ with
    | none => rfl
    | some ρ1 => exact asgs_pl ts ds ρ1 h'.2
end
section
variable {g : G} {F : Fr} {σ : L2.St} {H : Hp} {p : Addr}
theorem mono_plusNew {o : HO} (h : H p = none) : Mono F.μ (F.plus p).μ F.α F.α H (upd H p o) :=
  have ne : ∀ a, Ob H a → a ≠ p := fun a h' => h'.ne h
  ⟨fun a o' h' _ _ => by rw [upd_ne (ne_of_none h' h)]; exact h', fun a h' z => (Fr.mu_plus z).elim id fun e => absurd e (ne a h'), fun _ _ h => h⟩
/-- a thing that is new comes into the store -/
theorem Rep.alpha {so : SO} (r : Rep g (F.plus p) σ H) (h0 : ¬ Ob F.H0 p) (hp : ¬ F.μ p) (hso : ∀ (μ' : Addr → Prop) (α' : List Addr), Mono (F.plus p).μ μ' F.α α' H H → SoR g μ' α' H p so) : Rep g (F.to (F.α ++ [p]) (F.st ++ [so])) σ H := by
  obtain ⟨n1, n2, n3⟩ := r.nu p (.inr rfl)
  have n2 : p ∉ F.α := n2
  have m : Mono (F.plus p).μ (F.to (F.α ++ [p]) (F.st ++ [so])).μ F.α (F.α ++ [p]) H H := by
    refine ⟨fun _ _ h _ _ => h, fun a _ z => ?_, fun k a h => ?_⟩
    · rcases z with z | z | z
      · exact .inl (.inl z)
      · rcases List.mem_append.mp (show a ∈ F.α ++ [p] from z) with z | z
        · exact .inr (.inl z)
        · exact .inl (.inr (List.mem_singleton.mp z))
      · exact .inr (.inr z)
    · rw [List.getElem?_append_left (List.getElem?_eq_some_iff.mp h).1]
      exact h
  have mem : ∀ a, a ∈ F.α ++ [p] → a ∈ F.α ∨ a = p := fun a z => (List.mem_append.mp z).imp id List.mem_singleton.mp
  refine ⟨⟨fun a o h n t => r.ent.keep a o h n t, r.ent.there, ?_⟩, fun a h => ⟨(r.ow0 a h).1, (r.ow0 a h).2.1, fun z => ?_⟩, fun a h => ?_, r.nd, ?_, fun a h => ⟨(r.nu a (.inl h)).1, fun z => ?_, (r.nu a (.inl h)).2.2⟩, r.tabs, ?_, fun k o h => ?_, r.len, r.wlen, fun i s h => (r.slots i s h).mono m fun _ _ _ h _ => h, r.me⟩
  · obtain ⟨β, e, nb⟩ := r.ent.pre
    have e : F.α = F.α0 ++ β := e
    exact ⟨β ++ [p], by show F.α ++ [p] = _; rw [e, List.append_assoc], fun a z => (List.mem_append.mp z).elim (nb a) fun z => by rw [List.mem_singleton.mp z]; exact h0⟩
  · rcases mem a z with z | z
    · exact (r.ow0 a h).2.2 z
    · subst z; exact n3 h
  · rcases mem a h with z | z
    · exact r.al0 a z
    · subst z; exact n1
  · refine List.nodup_append.mpr ⟨r.nda, by simp, fun a ha b hb e => ?_⟩
    rw [List.mem_singleton.mp hb] at e
    subst e
    exact n2 ha
  · rcases mem a z with z | z
    · exact (r.nu a (.inl h)).2.1 z
    · subst z; exact hp (.inl h)
  · show (F.α ++ [p]).length = (F.st ++ [so]).length
    rw [List.length_append, List.length_append]
    have : F.α.length = F.st.length := r.alen
    rw [this]
    rfl
  · have al : F.α.length = F.st.length := r.alen
    have h : (F.st ++ [so])[k]? = some o := h
    by_cases hk : k < F.st.length
    · rw [List.getElem?_append_left hk] at h
      obtain ⟨a, ha, q⟩ := r.objs k o h
      refine ⟨a, m.pre k a ha, ?_⟩
      cases o with
      | lst l =>
        obtain ⟨vs, h1, h2⟩ := q
        exact ⟨vs, h1, m.ats _ _ h2⟩
      | ins c fs =>
        obtain ⟨dx, vs, h1, hl, h2⟩ := q
        exact ⟨dx, vs, h1, hl, m.ats _ _ h2⟩
    · rw [List.getElem?_append_right (by omega)] at h
      obtain ⟨hz, e⟩ := List.getElem?_eq_some_iff.mp h
      have : k = F.st.length := by simp at hz; omega
      subst this
      simp at h
      subst h
      exact ⟨p, by show (F.α ++ [p])[F.st.length]? = _; rw [← al, List.getElem?_concat_length], hso _ _ m⟩
end
section
variable {g : G} {C : Calls} {EW : XK} {w : Nat} {X : Cx} {a b c e tg : Expr} {m ma mb mc : E} {pos : Pos}
theorem PostS.out0 {β : Type} {F : Fr} {σ : L2.St} {H : Hp} {Dn : Ends} {r : R β} {f : β → Store → Out} (hr : Rep g F σ H) (p : PostS g EW Dn F H (r.out f)) : PostK g EW F σ H (fun F1 H1 x => Lt F H F1 H1 ∧ Rep g F1 σ H1 ∧ (∃ α' st', F1 = F.to α' st') ∧ PostS g EW Dn F H (f x F1.st)) r := by
  cases r with
  | ok b st => exact fun H' α' n r => ⟨Lt.of n, r, ⟨_, _, rfl⟩, p⟩
  | exc c d st => exact fun H' α' v dx n r a h => p (F.to α' st) σ H' v dx (Lt.of n) rfl r a h
  | bad => exact p
theorem t_pass : PS X (.Pass pos) (tS g C EW w .pass) := PS_imp ps_pass fun Dn σ H ⟨F, r, p⟩ => by
  simp only [ex] at p
  exact p.nx Lt.refl r rfl rfl
theorem t_expr (h : PE X e (tE g C EW m)) (hs : swapsWith e none pos.line X.env = pure false) : PS X (.Expr e pos) (tS g C EW w (.ex m)) := PS_imp (ps_expr h hs) fun Dn σ H ⟨F, r, p⟩ => by
  simp only [ex] at p
  exact ⟨F, r, (p.out r).mono fun F1 H1 x ⟨l, r1, ⟨α', st', e1⟩, p1⟩ v hv => by
    subst e1
    exact p1.nx Lt.refl r1 rfl rfl⟩
theorem t_ret (h : PE X e (tE g C EW m)) : PS X (.Return (some e) pos) (tS g C EW w (.ret m)) := PS_imp (ps_ret h) fun Dn σ H ⟨F, r, p⟩ => by
  simp only [ex] at p
  exact ⟨F, r, (p.out r).mono fun F1 H1 x ⟨l, r1, _, p1⟩ v hv => p1 F1 σ H1 v Lt.refl rfl r1 hv⟩
theorem t_if {p q : List Stmt} {ps qs : List S} (hc : PT X c (tT g C EW mc)) (hp : PSs X p (tSs g C EW w ps)) (hq : PSs X q (tSs g C EW w qs)) : PS X (.If c p q pos) (tS g C EW w (.if_ mc ps qs)) := PS_imp (ps_if hc hp hq) fun Dn σ H ⟨F, r, p⟩ => by
  simp only [ex] at p
  refine ⟨F, r, (p.out r).mono fun F1 H1 x ⟨l, r1, ⟨α', st', e1⟩, p1⟩ => ?_⟩
  subst e1
  split at p1
  · exact ⟨true, rfl, iteT ⟨_, r1, p1⟩⟩
  · exact ⟨false, rfl, iteF ⟨_, r1, p1⟩⟩
  · exact p1.elim
/-- target = value, plain names -/
theorem asg_of {t : T} (ht : t.pl = true) {Dn : Ends} {σ : L2.St} {H : Hp} : tS g C EW w (.set t m) Dn σ H → tAsg (tE g C EW m) (tG g t) Dn σ H := fun ⟨F, r, p⟩ => by
  simp only [ex] at p
  refine ⟨F, r, (p.out r).mono fun F1 H1 x ⟨l, r1, ⟨α', st', e1⟩, p1⟩ v hv => ?_⟩
  subst e1
  obtain ⟨q, hq, p2⟩ := p1.opt
  rw [asg_pl t x _ ht] at hq
  obtain ⟨ρ1, h1, rfl⟩ := Option.map_eq_some_iff.mp hq
  exact ⟨_, x, r1, hv, ρ1, h1, fun σ' r' _ _ => p2.nx Lt.slots r' rfl rfl⟩
theorem t_set {t : T} (ht : t.pl = true) (h : PE X e (tE g C EW m)) (hg : PG X tg (tG g t)) (hs : swapsWithSole [tg] e pos.line X.env = pure false) (hw : swappedStores [tg] e X.env = pure none) (h1 : (assignEach [tg] X.env).map (·.2) = [assign tg X.env]) :
    PS X (.Assign [tg] e pos) (tS g C EW w (.set t m)) := PS_imp (ps_asg h hg hs hw h1) fun Dn σ H q => asg_of ht q
/-- name = value, the name alone holds the new list -/
theorem own_of {i : Nat} {Dn : Ends} {σ : L2.St} {H : Hp} : tS g C EW w (.set (.own i) m) Dn σ H → tAsg (tN g C EW m) (gName i) Dn σ H := fun ⟨F, r, p⟩ => by
  simp only [ex] at p
  refine ⟨F, r, (p.out0 r).mono fun F1 H1 x ⟨l, r1, ⟨α', st', e1⟩, p1⟩ q hq nq rq hx => ?_⟩
  subst e1
  have h0 : ¬ Ob F.H0 q := fun z => hq (r.ent.there q z)
  obtain ⟨z, hz, p2⟩ := p1.opt
  have lt : ∀ s, Lt F H { (F.to α' st') with ω := F.ω.set i (some q), ρ := F.ρ.set i s } H1 := fun s => Lt.own (F' := F.to α' st') l hq
  rcases hx with ⟨l', vs, rfl, hH, hl⟩ | ⟨rfl, hH⟩
  · simp only [asg] at hz
    split at hz
    case isFalse => cases hz
    rename_i hi
    cases hz
    exact p2.nx (lt (.own l')) (rq.own (i := i) (s := .own l') hi h0 nq fun μ' m => ⟨q, vs, rfl, rfl, hH, m.ats _ _ hl⟩) rfl rfl
  · simp only [asg] at hz
    split at hz
    case isFalse => cases hz
    rename_i hi
    cases hz
    exact p2.nx (lt (.ownD [] [])) (rq.own (i := i) (s := .ownD [] []) hi h0 nq fun μ' m => ⟨q, [], rfl, rfl, hH, rfl, rfl⟩) rfl rfl
theorem t_setown {i : Nat} {x : Str} {p' : Pos} (hN : X.N.Nodup) (hi : X.N[i]? = some x) (hx : Loc X.env.scope x) (hf : X.fn x = true ∨ X.env.scope.names.lookup x = some .local) (h : PE X e (tN g C EW m)) (hs : swapsWith e (some (.Name x p')) pos.line X.env = pure false) :
    PS X (.Assign [.Name x p'] e pos) (tS g C EW w (.set (.own i) m)) := PS_imp (ps_set hN hi hx h hs hf) fun Dn σ H q => own_of q
/-- name = [..] on one line -/
theorem nm_of {i : Nat} {Dn : Ends} {σ : L2.St} {H : Hp} : tS g C EW w (.set (.nm i) m) Dn σ H → tAsg (tN g C EW m) (gName i) Dn σ H := fun ⟨F, r, p⟩ => by
  simp only [ex] at p
  refine ⟨F, r, (p.out r).mono fun F1 H1 x ⟨l, r1, ⟨α', st', e1⟩, p1⟩ => .of fun v hv => ?_⟩
  subst e1
  obtain ⟨q, hq, p2⟩ := p1.opt
  simp only [asg] at hq
  split at hq
  case isFalse => cases hq
  rename_i hi
  cases hq
  exact p2.nx Lt.slots (r1.setVal hv hi) rfl rfl
theorem asgs_two {P : Prog} {i j : Nat} {ds : List D} {ρ : Env} {st : Store} {q : Env × Store} (h : asgs P [.nm i, .nm j] ds ρ st = some q) : ∃ d1 d2, ds = [d1, d2] := by
  rw [asgs_pl [.nm i, .nm j] ds ρ rfl] at h
  obtain ⟨ρ1, h1, _⟩ := Option.map_eq_some_iff.mp h
  have := asgNs_len h1
  match ds, this with
  | [a, b], _ => exact ⟨a, b, rfl⟩
theorem asgs_two' {P : Prog} {i j : Nat} {d1 d2 : D} {ρ : Env} {st : Store} {q : Env × Store} (h : asgs P [.nm i, .nm j] [d1, d2] ρ st = some q) : i < ρ.length ∧ j < ρ.length ∧ q = ((ρ.set i (.val d1)).set j (.val d2), st) := by
  rw [asgs_pl [.nm i, .nm j] _ ρ rfl] at h
  simp only [asgNs, asgN] at h
  by_cases hi : i < ρ.length
  · by_cases hj : j < ρ.length
    · simp [hi, hj] at h
      exact ⟨hi, hj, h.symm⟩
    · simp [hi, hj] at h
  · simp [hi] at h
theorem asgs_three {P : Prog} {i j k : Nat} {ds : List D} {ρ : Env} {st : Store} {q : Env × Store} (h : asgs P [.nm i, .nm j, .nm k] ds ρ st = some q) : ∃ d1 d2 d3, ds = [d1, d2, d3] := by
  rw [asgs_pl [.nm i, .nm j, .nm k] ds ρ rfl] at h
  obtain ⟨ρ1, h1, _⟩ := Option.map_eq_some_iff.mp h
  have := asgNs_len h1
  match ds, this with
  | [a, b, c], _ => exact ⟨a, b, c, rfl⟩
theorem asgs_three' {P : Prog} {i j k : Nat} {d1 d2 d3 : D} {ρ : Env} {st : Store} {q : Env × Store} (h : asgs P [.nm i, .nm j, .nm k] [d1, d2, d3] ρ st = some q) : i < ρ.length ∧ j < ρ.length ∧ k < ρ.length ∧ q = (((ρ.set i (.val d1)).set j (.val d2)).set k (.val d3), st) := by
  rw [asgs_pl [.nm i, .nm j, .nm k] _ ρ rfl] at h
  simp only [asgNs, asgN] at h
  by_cases hi : i < ρ.length
  · by_cases hj : j < ρ.length
    · by_cases hk : k < ρ.length
      · simp [hi, hj, hk] at h
        exact ⟨hi, hj, hk, h.symm⟩
      · simp [hi, hj, hk] at h
    · simp [hi, hj] at h
  · simp [hi] at h
/-- a, b = x, y: stored from the right -/
theorem t_par2 {i j : Nat} {x y : Str} {px py pt pt2 : Pos} {kt k2 : Nat} (hc : X.calm = true) (hN : X.N.Nodup) (hi : X.N[i]? = some x) (hj : X.N[j]? = some y) (hij : i ≠ j)
    (hx : X.env.scope.names.lookup x = some .local) (hy : X.env.scope.names.lookup y = some .local) (ha : PA X [a, b] (tAs g C EW [ma, mb]))
    (hw : swappedStores [.Tuple [.Name x px, .Name y py] kt pt] (.Tuple [a, b] k2 pt2) X.env = pure (some [x, y]))
    (hs : swapsWithSole [.Tuple [.Name x px, .Name y py] kt pt] (.Tuple [a, b] k2 pt2) pos.line X.env = pure false) :
    PS X (.Assign [.Tuple [.Name x px, .Name y py] kt pt] (.Tuple [a, b] k2 pt2) pos) (tS g C EW w (.set (.tup [.nm i, .nm j]) (.tup [ma, mb]))) := PS_imp (ps_par hc hN hi hj hij hx hy ha hw hs) fun Dn σ H ⟨F, r, p⟩ => by
  have e0 : ex g.PR C w (.set (.tup [.nm i, .nm j]) (.tup [ma, mb])) F.ρ F.st = (evs g.PR C [ma, mb] F.ρ F.st).out fun ds st => Out.ofOpt (asgs g.PR [.nm i, .nm j] ds F.ρ st) fun q => .nx q.1 q.2 := by
    simp only [ex, ev]
    cases evs g.PR C [ma, mb] F.ρ F.st <;> rfl
  rw [e0] at p
  refine ⟨F, r, (p.out r).mono fun F1 H1 x ⟨l, r1, ⟨α', st', e1⟩, p1⟩ vs hv => ?_⟩
  subst e1
  obtain ⟨q, hq, p2⟩ := p1.opt
  obtain ⟨d1, d2, rfl⟩ := asgs_two hq
  obtain ⟨v1, vr, rfl, h1, v2, vr2, rfl, h2, rfl⟩ := hv
  obtain ⟨i1, i2, rfl⟩ := asgs_two' hq
  refine ⟨v1, v2, rfl, p2.nx Lt.slots ((r1.setVal h1 i1).setVal h2 (by simpa using i2)) rfl rfl⟩
theorem t_par3 {i j k : Nat} {x y z : Str} {px py pz pt pt2 : Pos} {kt k2 : Nat} (hc : X.calm = true) (hN : X.N.Nodup) (hi : X.N[i]? = some x) (hj : X.N[j]? = some y) (hk : X.N[k]? = some z) (hij : i ≠ j) (hik : i ≠ k) (hjk : j ≠ k)
    (hx : X.env.scope.names.lookup x = some .local) (hy : X.env.scope.names.lookup y = some .local) (hz : X.env.scope.names.lookup z = some .local) (ha : PA X [a, b, c] (tAs g C EW [ma, mb, mc]))
    (hw : swappedStores [.Tuple [.Name x px, .Name y py, .Name z pz] kt pt] (.Tuple [a, b, c] k2 pt2) X.env = pure (some [x, y, z]))
    (hs : swapsWithSole [.Tuple [.Name x px, .Name y py, .Name z pz] kt pt] (.Tuple [a, b, c] k2 pt2) pos.line X.env = pure false) :
    PS X (.Assign [.Tuple [.Name x px, .Name y py, .Name z pz] kt pt] (.Tuple [a, b, c] k2 pt2) pos) (tS g C EW w (.set (.tup [.nm i, .nm j, .nm k]) (.tup [ma, mb, mc]))) := PS_imp (ps_par3 hc hN hi hj hk hij hik hjk hx hy hz ha hw hs) fun Dn σ H ⟨F, r, p⟩ => by
  have e0 : ex g.PR C w (.set (.tup [.nm i, .nm j, .nm k]) (.tup [ma, mb, mc])) F.ρ F.st = (evs g.PR C [ma, mb, mc] F.ρ F.st).out fun ds st => Out.ofOpt (asgs g.PR [.nm i, .nm j, .nm k] ds F.ρ st) fun q => .nx q.1 q.2 := by
    simp only [ex, ev]
    cases evs g.PR C [ma, mb, mc] F.ρ F.st <;> rfl
  rw [e0] at p
  refine ⟨F, r, (p.out r).mono fun F1 H1 x ⟨l, r1, ⟨α', st', e1⟩, p1⟩ vs hv => ?_⟩
  subst e1
  obtain ⟨q, hq, p2⟩ := p1.opt
  obtain ⟨d1, d2, d3, rfl⟩ := asgs_three hq
  obtain ⟨v1, vr, rfl, h1, v2, vr2, rfl, h2, v3, vr3, rfl, h3, rfl⟩ := hv
  obtain ⟨i1, i2, i3, rfl⟩ := asgs_three' hq
  refine ⟨v1, v2, v3, rfl, p2.nx Lt.slots (((r1.setVal h1 i1).setVal h2 (by simpa using i2)).setVal h3 (by simpa using i3)) rfl rfl⟩
/-- name = [..], a list of the store -/
theorem t_newp {i : Nat} {x : Str} {p' p2 : Pos} {es : List Expr} {ms : List E} (hN : X.N.Nodup) (hi : X.N[i]? = some x) (hx : Loc X.env.scope x) (hf : X.fn x = true ∨ X.env.scope.names.lookup x = some .local) (h : PA X es (tAs g C EW ms)) (hl : ms.length ≤ 1000) (hs : swapsWith (.List es p2) (some (.Name x p')) pos.line X.env = pure false) :
    PS X (.Assign [.Name x p'] (.List es p2) pos) (tS g C EW w (.newp i ms)) := PS_imp (ps_set hN hi hx (pe_lst h) hs hf) fun Dn σ H ⟨F, r, p⟩ => by
  simp only [ex] at p
  refine ⟨F, r, (p.out0 r).keep.mono fun F1 H1 ds ⟨⟨l, r1, ⟨α', st', e1⟩, p1⟩, st, e⟩ vs hv => ⟨?_, fun q hq => ?_⟩⟩
  · rw [← hv.length, evs_len e, sizeLine_eq]
    omega
  subst e1
  split at p1
  case isFalse => exact p1.elim
  rename_i hi
  have hq0 : ¬ Ob H q := fun z => not_ob hq (l.there q z)
  have h0 : ¬ Ob F.H0 q := fun z => hq0 (r.ent.there q z)
  have rp := r1.plusNew (o := .lst vs) hq
  have hv2 := (mono_plusNew (F := F.to α' st') (o := .lst vs) hq).ats _ _ hv
  have ra := rp.alpha (so := .lst ds) h0 (r1.new_mu hq) fun μ' α2 m => ⟨vs, upd_same, m.ats _ _ hv2⟩
  have hp : At g ((F.to α' st').to (α' ++ [q]) (st' ++ [.lst ds])).μ (α' ++ [q]) (upd H1 q (.lst vs)) (.ptr st'.length) (.ref q) := ⟨q, rfl, by rw [← show α'.length = st'.length from r1.alen, List.getElem?_concat_length]⟩
  refine p1.nx (F' := { ((F.to α' st').to (α' ++ [q]) (st' ++ [.lst ds])) with ρ := F.ρ.set i (.val (.ptr st'.length)) }) ?_ (ra.setVal hp hi) rfl rfl
  refine ⟨rfl, rfl, rfl, rfl, fun a o h n t => ?_, fun a h z => ?_, fun k a h => ?_, fun a h => ?_⟩
  · have z := l.keep a o h n t
    rw [upd_ne (fun e => hq0 (by rw [← e]; exact Ob.of h t))]
    exact z
  · rcases z with z | z | z
    · exact .inl z
    · rcases List.mem_append.mp (show a ∈ α' ++ [q] from z) with z | z
      · exact l.less a h (.inr (.inl z))
      · rw [List.mem_singleton] at z
        subst z
        exact absurd h hq0
    · exact .inr (.inr z)
  · have z : α'[k]? = some a := l.pre k a h
    show (α' ++ [q])[k]? = some a
    rw [List.getElem?_append_left (List.getElem?_eq_some_iff.mp z).1]
    exact z
  · exact (l.there a h).keep hq
end
end Mini
end
section
set_option Elab.async false
set_option linter.all false
set_option maxRecDepth 100000
set_option maxHeartbeats 2000000
/-! # Mini: statements that change a thing; loops -/
namespace Mini
open PySem L2 PySem.Spec PyProof.Rows
theorem nodup_ix : ∀ {l : List Addr} {i j : Nat} {a : Addr}, l.Nodup → l[i]? = some a → l[j]? = some a → i = j := by
  intro l
  induction l with
  | nil => intro i j a _ h; simp at h
  | cons o l ih =>
    intro i j a hn h h'
    obtain ⟨hn1, hn'⟩ := List.nodup_cons.mp hn
    cases i with
    | zero =>
      cases j with
      | zero => rfl
      | succ j =>
        simp at h h'
        subst h
        exact absurd (List.mem_of_getElem? h') hn1
    | succ i =>
      cases j with
      | zero =>
        simp at h h'
        subst h'
        exact absurd (List.mem_of_getElem? h) hn1
      | succ j => exact congrArg Nat.succ (ih hn' (by simpa using h) (by simpa using h'))
section
variable {g : G} {F : Fr} {σ : L2.St} {H : Hp}
theorem mono_mu {a : Addr} {o : HO} (h : F.μ a) : Mono F.μ F.μ F.α F.α H (upd H a o) :=
  ⟨fun b o' h' n _ => by rw [upd_ne (fun e => n (by rw [e]; exact h))]; exact h', fun _ _ h => h, fun _ _ h => h⟩
theorem there_upd {a : Addr} {o : HO} (nt : NT o) : ∀ b, Ob H b → Ob (upd H a o) b := fun b h => h.upd nt
theorem Lt.chg {a : Addr} {o : HO} {ρ : Env} {st : Store} (h : F.μ a) (nt : NT o := by exact fun _ => nofun) : Lt F H { F with ρ := ρ, st := st } (upd H a o) :=
  ⟨rfl, rfl, rfl, rfl, (mono_mu h).keep, fun _ _ z => z, fun _ _ h => h, there_upd nt⟩
/-- what the i-th place owns is changed -/
theorem Rep.chgOwn {i : Nat} {a : Addr} {o u : HO} {s' : Slot} (r : Rep g F σ H) (hi : i < F.ρ.length) (ha : F.ω[i]?.join = some a) (hu : H a = some u) (hn : NC u) (hs : SlR g F.μ F.α (upd H a o) (some a) (σ[i]?.join) s') (nt : NT o := by exact fun _ => nofun) (hI : ∀ c fs, s' = .ownI c fs → ∃ c0 fs0, F.ρ[i]? = some (.ownI c0 fs0) := by exact fun _ _ h => nomatch h) :
    Rep g { F with ρ := F.ρ.set i s' } σ (upd H a o) := by
  have mem := join_mem ha
  have m : Mono F.μ F.μ F.α F.α H (upd H a o) := mono_mu (.inr (.inr mem))
  obtain ⟨z0, z1, z2⟩ := r.ow0 a mem
  refine ⟨⟨fun b o' h n t => ?_, fun b h => there_upd nt b (r.ent.there b h), r.ent.pre⟩, fun b h => ⟨(r.ow0 b h).1, there_upd nt b (r.ow0 b h).2.1, (r.ow0 b h).2.2⟩, fun b h => there_upd nt b (r.al0 b h), r.nd, r.nda, fun b h => ⟨there_upd nt b (r.nu b h).1, (r.nu b h).2⟩, tabs_chg r.tabs hu hn, r.alen, fun k o' h => ?_, by simp [r.len], by simp [r.wlen], fun j s h => ?_, fun j c fs h => ?_⟩
  · rw [upd_ne (fun e => z0 (by rw [← e]; exact Ob.of h t))]
    exact r.ent.keep b o' h n t
  · obtain ⟨b, hb, q⟩ := r.objs k o' h
    have ne : b ≠ a := fun e => z2 (by rw [← e]; exact List.mem_of_getElem? hb)
    refine ⟨b, hb, ?_⟩
    cases o' with
    | lst l =>
      obtain ⟨vs, h1, h2⟩ := q
      exact ⟨vs, by rw [upd_ne ne]; exact h1, m.ats _ _ h2⟩
    | ins c fs =>
      obtain ⟨dx, vs, h1, hl, h2⟩ := q
      exact ⟨dx, vs, by rw [upd_ne ne]; exact h1, hl, m.ats _ _ h2⟩
  · by_cases e : i = j
    · subst e
      have h : (F.ρ.set i s')[i]? = some s := h
      simp only [List.getElem?_set_self hi, Option.some.injEq] at h
      subst h
      show SlR g F.μ F.α (upd H a o) (F.ω[i]?.join) _ s'
      rw [ha]
      exact hs
    · have h : (F.ρ.set i s')[j]? = some s := h
      rw [List.getElem?_set_ne e] at h
      refine (r.slots j s h).mono m fun b o' hb ho _ => ?_
      rw [upd_ne (fun q => ?_)]
      · exact ho
      · subst q
        have up : ∀ {k : Nat}, F.ω[k]?.join = some b → F.ω[k]? = some (some b) := fun {k} hk => by
          cases q : F.ω[k]? with
          | none => rw [q] at hk; cases hk
          | some o => rw [q] at hk; exact congrArg some hk
        exact e (nodup_at r.nd (up ha) (up hb))
  · by_cases e : i = j
    · subst e
      have h : (F.ρ.set i s')[i]? = some (.ownI c fs) := h
      simp only [List.getElem?_set_self hi, Option.some.injEq] at h
      obtain ⟨c0, fs0, q⟩ := hI c fs h
      exact r.me i c0 fs0 q
    · have h : (F.ρ.set i s')[j]? = some (.ownI c fs) := h
      rw [List.getElem?_set_ne e] at h
      exact r.me j c fs h
/-- a thing of the store is changed -/
theorem Rep.chgObj {k : Nat} {a : Addr} {o u : HO} {so : SO} (r : Rep g F σ H) (ha : F.α[k]? = some a) (hu : H a = some u) (hn : NC u) (hk : k < F.st.length) (hs : SoR g F.μ F.α (upd H a o) a so) (nt : NT o := by exact fun _ => nofun) : Rep g { F with st := F.st.set k so } σ (upd H a o) := by
  have mem := List.mem_of_getElem? ha
  have m : Mono F.μ F.μ F.α F.α H (upd H a o) := mono_mu (.inr (.inl mem))
  refine ⟨⟨fun b o' h n t => ?_, fun b h => there_upd nt b (r.ent.there b h), r.ent.pre⟩, fun b h => ⟨(r.ow0 b h).1, there_upd nt b (r.ow0 b h).2.1, (r.ow0 b h).2.2⟩, fun b h => there_upd nt b (r.al0 b h), r.nd, r.nda, fun b h => ⟨there_upd nt b (r.nu b h).1, (r.nu b h).2⟩, tabs_chg r.tabs hu hn, by simp [r.alen], fun j o' h => ?_, r.len, r.wlen, fun j s h => ?_, r.me⟩
  · rw [upd_ne (fun e => ?_)]
    · exact r.ent.keep b o' h n t
    · subst e
      obtain ⟨β, e, nb⟩ := r.ent.pre
      rw [e] at mem
      rcases List.mem_append.mp mem with z | z
      · exact n z
      · exact nb b z (Ob.of h t)
  · have h : (F.st.set k so)[j]? = some o' := h
    by_cases e : k = j
    · subst e
      simp only [List.getElem?_set_self hk, Option.some.injEq] at h
      subst h
      exact ⟨a, ha, hs⟩
    · rw [List.getElem?_set_ne e] at h
      obtain ⟨b, hb, q⟩ := r.objs j o' h
      have ne : b ≠ a := fun q => by
        subst q
        exact e (nodup_ix r.nda ha hb)
      refine ⟨b, hb, ?_⟩
      cases o' with
      | lst l =>
        obtain ⟨vs, h1, h2⟩ := q
        exact ⟨vs, by rw [upd_ne ne]; exact h1, m.ats _ _ h2⟩
      | ins c fs =>
        obtain ⟨dx, vs, h1, hl, h2⟩ := q
        exact ⟨dx, vs, by rw [upd_ne ne]; exact h1, hl, m.ats _ _ h2⟩
  · refine (r.slots j s h).mono m fun b o' hb ho _ => ?_
    rw [upd_ne (fun q => (r.ow0 b (join_mem hb)).2.2 (by rw [q]; exact mem))]
    exact ho
end
section
variable {g : G} {EW : XK}
theorem PostS.nxImp {Dn Dn' : Ends} {F : Fr} {H : Hp} {o : Out} (p : PostS g EW Dn F H o) (hr : Dn'.rt = Dn.rt) (h : ∀ σ' H', Dn.nx σ' H' → Dn'.nx σ' H') : PostS g EW Dn' F H o := by
  cases o with
  | nx ρ st => exact fun F' σ' H' l e1 e2 r => h _ _ (p F' σ' H' l e1 e2 r)
  | rt d st =>
    intro F' σ' H' v l e r hv
    rw [hr]
    exact p F' σ' H' v l e r hv
  | exc c d st => exact p
  | bad => exact p
end
section
variable {g : G} {C : Calls} {EW : XK} {w : Nat} {X : Cx} {a b c e tg iter : Expr} {m ma mb mc : E} {pos : Pos}
theorem own_st {F : Fr} {α' : List Addr} {st' : Store} {i : Nat} {s : Slot} (h : F.ρ[i]? = some s) : (F.to α' st').ρ[i]? = some s := h
/-- name.extend(e) -/
theorem t_extd {i : Nat} {x : Str} {p apos cpos : Pos} (hK : X.K = g.K) (hN : X.N[i]? = some x) (hv : Vis X.env.scope x) (hd : (x == ("__debug__" : Str)) = false) (hcd : (x == ("__classdict__" : Str)) = false) (h : PE X e (tE g C EW m))
    (hbase : attributeBase (.Name x p) "extend" X.env (eval (.Name x p) X.env) = eval (.Name x p) X.env)
    (hfew : ((backTo cpos (starEach [e] X.env)).all (fun x => !x.1) && (backToKw cpos (keywordEach [] X.env)).all (fun x => x.1.isSome) && decide ([e].length + ([] : List Keyword).length + (if ([] : List Keyword).isEmpty then 0 else 1) < 30)) = true)
    (hline : (apos.endLine == cpos.line) = true) (hs : starEach [e] X.env = (false, eval e X.env) :: starEach [] X.env) (hplain : (backTo cpos (starEach [] X.env)).any (·.1) = false)
    (hsw : swapsWith (.Call (.Attribute (.Name x p) "extend" apos) [e] [] cpos) none pos.line X.env = pure false) :
    PS X (.Expr (.Call (.Attribute (.Name x p) "extend" apos) [e] [] cpos) pos) (tS g C EW w (.extd i m)) := by
  refine PS_imp (ps_expr (pe_bm PySem.F.plainAttrs_list PySem.F.slot_list_extend PySem.F.type_list_extend mt_extend (pe_var hN hv hd hcd) (pa_cons h pa_nil hs) hbase hfew hline hs hplain) hsw) fun Dn σ H ⟨F, r, p⟩ => ?_
  simp only [ex] at p
  split at p
  case h_2 => exact p.elim
  rename_i l hl
  obtain ⟨a, vs, h1, h2, h3, h4⟩ := r.slots i _ hl
  refine ⟨.ref a, join_some h2, .inl ⟨rfl, vs, SqL.of h3⟩, F, r, (p.out r).mono fun F1 H1 d ⟨lt, r1, ⟨α', st', e1⟩, p1⟩ v hv => ?_⟩
  subst e1
  cases d with
  | lst l' =>
    simp only at p1
    obtain ⟨q, hq, p2⟩ := p1.opt
    unfold catL at hq
    split at hq
    case isFalse => cases hq
    rename_i hlen
    cases hq
    obtain ⟨b, ws, rfl, hH, hw⟩ := hv
    obtain ⟨a', vs', h1', h2', h3', h4'⟩ := r1.slots i _ (own_st hl)
    have ea : a' = a := by
      have : F.ω[i]?.join = some a' := h1'
      rw [h1] at this
      exact (Option.some.inj this).symm
    subst ea
    refine ⟨a', b, vs', ws, rfl, rfl, h3', hH.1, ?_, ?_⟩
    · rw [← h4'.length, ← hw.length, sizeLine_eq]
      have : maxLen = 1000000 := rfl
      omega
    · have hi : i < F.ρ.length := (List.getElem?_eq_some_iff.mp hl).1
      have mu : (F.to α' st').μ a' := .inr (.inr (join_mem h1'))
      refine p2.nx (Lt.chg mu) (r1.chgOwn (s' := .own (l ++ l')) hi h1' h3' ⟨fun _ => nofun, fun _ => nofun⟩ ⟨a', vs' ++ ws, rfl, h2', upd_same, ?_⟩) rfl rfl
      exact (mono_mu mu).ats _ _ (h4'.append hw)
  | _ => exact p1.elim
/-- name.append(e) -/
theorem t_app {i : Nat} {x : Str} {p apos cpos : Pos} (hK : X.K = g.K) (hN : X.N[i]? = some x) (hv : Vis X.env.scope x) (hd : (x == ("__debug__" : Str)) = false) (hcd : (x == ("__classdict__" : Str)) = false) (h : PE X e (tE g C EW m))
    (hbase : attributeBase (.Name x p) "append" X.env (eval (.Name x p) X.env) = eval (.Name x p) X.env)
    (hfew : ((backTo cpos (starEach [e] X.env)).all (fun x => !x.1) && (backToKw cpos (keywordEach [] X.env)).all (fun x => x.1.isSome) && decide ([e].length + ([] : List Keyword).length + (if ([] : List Keyword).isEmpty then 0 else 1) < 30)) = true)
    (hline : (apos.endLine == cpos.line) = true) (hs : starEach [e] X.env = (false, eval e X.env) :: starEach [] X.env) (hplain : (backTo cpos (starEach [] X.env)).any (·.1) = false)
    (hsw : swapsWith (.Call (.Attribute (.Name x p) "append" apos) [e] [] cpos) none pos.line X.env = pure false) :
    PS X (.Expr (.Call (.Attribute (.Name x p) "append" apos) [e] [] cpos) pos) (tS g C EW w (.app i m)) := by
  refine PS_imp (ps_expr (pe_bm PySem.F.plainAttrs_list PySem.F.slot_list_append PySem.F.type_list_append mt_append (pe_var hN hv hd hcd) (pa_cons h pa_nil hs) hbase hfew hline hs hplain) hsw) fun Dn σ H ⟨F, r, p⟩ => ?_
  simp only [ex] at p
  split at p
  case h_2 => exact p.elim
  rename_i l hl
  obtain ⟨a, vs, h1, h2, h3, h4⟩ := r.slots i _ hl
  refine ⟨.ref a, join_some h2, .inl ⟨rfl, vs, SqL.of h3⟩, F, r, (p.out r).mono fun F1 H1 d ⟨lt, r1, ⟨α', st', e1⟩, p1⟩ v hv => ?_⟩
  subst e1
  split at p1
  case isFalse => exact p1.elim
  rename_i hlen
  obtain ⟨a', vs', h1', h2', h3', h4'⟩ := r1.slots i _ (own_st hl)
  have ea : a' = a := by
    have : F.ω[i]?.join = some a' := h1'
    rw [h1] at this
    exact (Option.some.inj this).symm
  subst ea
  refine ⟨a', vs', v, rfl, rfl, h3', ?_, ?_⟩
  · rw [← h4'.length, sizeLine_eq]
    have : maxLen = 1000000 := rfl
    omega
  · have hi : i < F.ρ.length := (List.getElem?_eq_some_iff.mp hl).1
    have mu : (F.to α' st').μ a' := .inr (.inr (join_mem h1'))
    refine p1.nx (Lt.chg mu) (r1.chgOwn (s' := .own (l ++ [d])) hi h1' h3' ⟨fun _ => nofun, fun _ => nofun⟩ ⟨a', vs' ++ [v], rfl, h2', upd_same, ?_⟩) rfl rfl
    exact (mono_mu mu).ats _ _ (h4'.append (Ats.one hv))
/-- name[x] = e -/
theorem ixN_put {l l' : List D} {j : Int} {d : D} (h : putAt l j d = some l') : ixN l.length j = some j.toNat ∧ l' = l.set j.toNat d := by
  unfold putAt at h
  split at h
  · rename_i hj
    cases h
    refine ⟨?_, rfl⟩
    unfold ixN
    rw [if_pos hj.1, if_pos (by omega)]
  · cases h
theorem t_six {i : Nat} {x : Str} {p tpos : Pos} {ix : Expr} {mi : E} (hK : X.K = g.K) (hN : X.N[i]? = some x) (hv : Vis X.env.scope x) (hd : (x == ("__debug__" : Str)) = false) (hcd : (x == ("__classdict__" : Str)) = false) (h : PE X e (tE g C EW m)) (hi : PE X ix (tE g C EW mi))
    (ha : ∀ v, assign (.Subscript (.Name x p) ix tpos) X.env v = (do
      let ov ← holding [v] (eval (.Name x p) X.env)
      let iv ← holding [v, ov] (eval ix X.env)
      standAt tpos
      holding [v, ov, iv] (setItem ov iv v)
      release [v, ov, iv] []))
    (hs : swapsWithSole [.Subscript (.Name x p) ix tpos] e pos.line X.env = pure false) (hw : swappedStores [.Subscript (.Name x p) ix tpos] e X.env = pure none) (h1 : (assignEach [.Subscript (.Name x p) ix tpos] X.env).map (·.2) = [assign (.Subscript (.Name x p) ix tpos) X.env]) :
    PS X (.Assign [.Subscript (.Name x p) ix tpos] e pos) (tS g C EW w (.six i mi m)) := by
  refine PS_imp (ps_asg h (pg_sub (pe_var hN hv hd hcd) hi set_list ha) hs hw h1) fun Dn σ H ⟨F, r, p⟩ => ?_
  simp only [ex] at p
  refine ⟨F, r, (p.out r).mono fun F1 H1 d ⟨lt, r1, ⟨α', st', e1⟩, p1⟩ v hv => ?_⟩
  subst e1
  split at p1
  · rename_i l hl
    obtain ⟨a, vs, h1, h2, h3, h4⟩ := r1.slots i _ (own_st hl)
    refine ⟨.ref a, join_some h2, _, r1, (p1.out r1).mono fun F2 H2 y ⟨l2, r2, ⟨α2, st2, e2⟩, p2⟩ u hu => ?_⟩
    subst e2
    cases y with
    | int j =>
      simp only at p2
      obtain ⟨l', hl', p3⟩ := p2.opt
      obtain ⟨hx, rfl⟩ := ixN_put hl'
      obtain ⟨a', vs', h1', h2', h3', h4'⟩ := r2.slots i _ (own_st hl)
      have ea : a' = a := by
        have h1 : F.ω[i]?.join = some a := h1
        have : F.ω[i]?.join = some a' := h1'
        rw [h1] at this
        exact (Option.some.inj this).symm
      subst ea
      have hi : i < F.ρ.length := (List.getElem?_eq_some_iff.mp hl).1
      have mu : ((F.to α' st').to α2 st2).μ a' := .inr (.inr (join_mem h1'))
      refine ⟨a', vs', j, j.toNat, rfl, hu, h3', by rw [← h4'.length]; exact hx, ?_⟩
      refine p3.nx (Lt.chg mu) (r2.chgOwn (s' := .own (l.set j.toNat d)) hi h1' h3' ⟨fun _ => nofun, fun _ => nofun⟩ ⟨a', vs'.set j.toNat v, rfl, h2', upd_same, ?_⟩) rfl rfl
      exact (mono_mu mu).ats _ _ (Ats.set (l2.mono.at _ _ hv) _ h4')
    | _ => exact p2.elim
  · rename_i k hk
    obtain ⟨v0, h2, a, rfl, hak⟩ := r1.slots i _ (own_st hk)
    refine ⟨.ref a, join_some h2, _, r1, (p1.out r1).mono fun F2 H2 y ⟨l2, r2, ⟨α2, st2, e2⟩, p2⟩ u hu => ?_⟩
    subst e2
    split at p2
    · rename_i j l hs _
      obtain ⟨l', hl', p3⟩ := p2.opt
      obtain ⟨hx, rfl⟩ := ixN_put hl'
      have hs : st2[k]? = some (.lst l) := hs
      obtain ⟨a', ha', vs, hH, hvs⟩ := r2.objs k _ hs
      have ha' : α2[k]? = some a' := ha'
      have ea : a' = a := Option.some.inj (ha'.symm.trans (l2.pre k a hak))
      subst ea
      have mu : ((F.to α' st').to α2 st2).μ a' := .inr (.inl (List.mem_of_getElem? ha'))
      refine ⟨a', vs, j, j.toNat, rfl, hu, hH, by rw [← hvs.length]; exact hx, ?_⟩
      refine p3.nx (Lt.chg mu) (r2.chgObj (so := .lst (l.set j.toNat d)) ha' hH ⟨fun _ => nofun, fun _ => nofun⟩ (List.getElem?_eq_some_iff.mp hs).1 ⟨vs.set j.toNat v, upd_same, ?_⟩) rfl rfl
      exact (mono_mu mu).ats _ _ (Ats.set (l2.mono.at _ _ hv) _ hvs)
    · exact p2.elim
  · exact p1.elim
theorem t_aug {i : Nat} {x : Str} {p' : Pos} {o : BOp} (ho : o = .add ∨ o = .mul) (hN : X.N.Nodup) (hi : X.N[i]? = some x) (hx : Loc X.env.scope x) (hf : X.fn x = true ∨ X.env.scope.names.lookup x = some .local) (h : PE X e (tE g C EW m)) :
    PS X (.AugAssign (.Name x p') (bopP o) e pos) (tS g C EW w (.aug i o m)) := by
  have hop : PIp X (bopP o) (fun x y H Q => ∃ a b z, x = .int a ∧ y = .int b ∧ opB o (.int a) (.int b) = some (.int z) ∧ Q (.int z) H) := by
    intro pins s σ H x y v u Q I r1 r2 ⟨a, b, z, e1, e2, hz, q⟩
    rcases ho with rfl | rfl
    · simp only [opB, Option.some.injEq, D.int.injEq] at hz
      subst hz
      exact iop_add pins s σ H x y v u Q I r1 r2 ⟨a, b, e1, e2, q⟩
    · simp only [opB] at hz
      split at hz
      case isFalse => cases hz
      rename_i c
      simp only [Option.some.injEq, D.int.injEq] at hz
      subst hz
      simp only [smallI, Bool.or_eq_true, Bool.and_eq_true, decide_eq_true_eq] at c
      exact iop_mul pins s σ H x y v u Q I r1 r2 ⟨a, b, e1, e2, c, q⟩
  have hres : ∀ {a b : Int} {z : D}, opB o (.int a) (.int b) = some z → ∃ k, z = .int k := by
    intro a b z hz
    rcases ho with rfl | rfl
    · simp only [opB, Option.some.injEq] at hz
      exact ⟨_, hz.symm⟩
    · simp only [opB] at hz
      split at hz
      · exact ⟨_, (Option.some.inj hz).symm⟩
      · cases hz
  refine PS_imp (ps_aug hN hi hx h hop hf) fun Dn σ H ⟨F, r, p⟩ => ?_
  simp only [ex] at p
  split at p
  case h_2 => exact p.elim
  rename_i a ha
  obtain ⟨v0, h2, h3⟩ := r.slots i _ ha
  refine ⟨v0, join_some h2, F, r, (p.out r).mono fun F1 H1 d ⟨lt, r1, ⟨α', st', e1⟩, p1⟩ v hv => ?_⟩
  subst e1
  cases d with
  | int b =>
    simp only at p1
    obtain ⟨z, hz, p2⟩ := p1.opt
    obtain ⟨k, rfl⟩ := hres hz
    have hi : i < F.ρ.length := (List.getElem?_eq_some_iff.mp ha).1
    exact ⟨a, b, k, h3, hv, hz, p2.nx Lt.slots (r1.setVal (d := .int k) rfl hi) rfl rfl⟩
  | _ => exact p1.elim
/-! ### loops -/
theorem forL_nil {turn : D → Env → Store → Out} {ρ : Env} {st : Store} : forL turn [] ρ st = .nx ρ st := rfl
theorem t_for {t : T} {ik : ItK} {src : List E} {body : List Stmt} {ms : List S} (hp : PassesOwn (model X.prog X.w) X.A X.env X.xe) (hc : X.calm = true) (hi : PI X tg iter (tIt g C EW false ik src)) (hg : PG X tg (tG g t)) (hb : PSs X body (tSs g C EW w ms))
    (hs : ∀ x, foldedSetIterable iter X.env x = pure x) : PS X (.For tg iter body [] pos) (tS g C EW w (.for_ t ik src ms)) := by
  refine PS_imp (ps_for hp hc hi hg hb hs) fun Dn σ H ⟨F, r, p⟩ => ?_
  simp only [ex] at p
  refine ⟨F, r, (p.out r).mono fun F1 H1 ds ⟨lt, r1, ⟨α', st', e1⟩, p1⟩ => ?_⟩
  subst e1
  obtain ⟨items, hit, p2⟩ := p1.opt
  refine ⟨items, hit, fun us hus J wk => ?_⟩
  refine ⟨fun i m σ' H' => ∃ F', Lt (F.to α' st') H1 F' H' ∧ Rep g F' σ' H' ∧ m = items.length - i ∧ i ≤ items.length ∧ PostS g EW Dn F' H' (forL (fun d ρ st => Out.ofOpt (asgN t d ρ) fun ρ1 => exs g.PR C w ms ρ1 st) (items.drop i) F'.ρ F'.st), ⟨items.length, _, Lt.refl, r1, by simp, Nat.zero_le _, p2⟩, ?_⟩
  rintro i m σ' H' ⟨F', l', r', rfl, hi, p'⟩
  have S : AXs g false F' H' ds us := l'.mono.ats _ _ hus
  by_cases hlt : i < items.length
  · right
    have hd : items[i]? = some items[i] := List.getElem?_eq_getElem hlt
    obtain ⟨hgo, hy⟩ := wk.go F' σ' H' r' S i _ hd
    rw [List.drop_eq_getElem_cons hlt] at p'
    unfold forL at p'
    refine ⟨hgo, fun σ'' H'' => ∃ F'', Lt (F.to α' st') H1 F'' H'' ∧ Rep g F'' σ'' H'' ∧ PostS g EW Dn F'' H'' (forL (fun d ρ st => Out.ofOpt (asgN t d ρ) fun ρ1 => exs g.PR C w ms ρ1 st) (items.drop (i + 1)) F''.ρ F''.st), fun σ'' H'' ⟨F'', l'', r'', p''⟩ => ⟨items.length - (i + 1), by omega, F'', l'', r'', rfl, hlt, p''⟩, fun x H2 y => ?_⟩
    obtain ⟨n2, t2, hx⟩ := hy x H2 y
    have r2 := r'.later n2 t2
    have l2 : Lt F' H' F' H2 := Lt.of (F := F') (α' := F'.α) (st' := F'.st) n2.widen
    cases ha : asgN t items[i] F'.ρ with
    | none => simp only [ha, Out.ofOpt, Out.bind] at p'; exact p'.elim
    | some ρ1 =>
      simp only [ha, Out.ofOpt] at p'
      refine ⟨F', _, r2, hx, ρ1, ha, fun σ3 r3 _ _ => ⟨{ F' with ρ := ρ1 }, r3, ?_⟩⟩
      have p3 := PostS.shift (l2.trans (Lt.slots (ρ := ρ1))) p'
      refine PostS.nxImp (PostS.bind (Dn' := { Dn with nx := fun σ' H' => ∃ F'', Lt { F' with ρ := ρ1 } H2 F'' H' ∧ Rep g F'' σ' H' ∧ PostS g EW Dn F'' H' (forL (fun d ρ st => Out.ofOpt (asgN t d ρ) fun ρ1 => exs g.PR C w ms ρ1 st) (items.drop (i + 1)) F''.ρ F''.st) }) p3 rfl rfl) rfl fun σ4 H4 ⟨F4, l4, r4, p4⟩ => ?_
      exact ⟨F4, l'.trans (l2.trans ((Lt.slots (ρ := ρ1)).trans l4)), r4, p4⟩
  · left
    have ei : i = items.length := by omega
    subst ei
    rw [List.drop_length] at p'
    exact ⟨wk.stop F' σ' H' r' S, p'.nx Lt.refl r' rfl rfl⟩
theorem t_whl {body : List Stmt} {ms : List S} (hp : PassesOwn (model X.prog X.w) X.A X.env X.xe) (hc : PT X c (tT g C EW mc)) (hb : PSs X body (tSs g C EW w ms)) : PS X (.While c body [] pos) (tS g C EW w (.whl mc ms)) := by
  refine PS_imp (ps_while hp hc hb) fun Dn σ H ⟨F, r, p⟩ => ?_
  simp only [ex] at p
  refine ⟨fun m σ' H' => ∃ F', Lt F H F' H' ∧ Rep g F' σ' H' ∧ PostS g EW Dn F' H' (whileL (fun ρ st => ev g.PR C mc ρ st) (fun ρ st => exs g.PR C w ms ρ st) m F'.ρ F'.st), ⟨w, F, Lt.refl, r, p⟩, ?_⟩
  rintro m σ' H' ⟨F', l', r', p'⟩
  cases m with
  | zero => exact p'.elim
  | succ m =>
    unfold whileL at p'
    refine ⟨F', r', (p'.out r').mono fun F1 H1 d ⟨lt, r1, ⟨α', st', e1⟩, p1⟩ => ?_⟩
    subst e1
    split at p1
    · refine ⟨true, rfl, iteT ⟨fun σ'' H'' => ∃ F'', Lt F H F'' H'' ∧ Rep g F'' σ'' H'' ∧ PostS g EW Dn F'' H'' (whileL (fun ρ st => ev g.PR C mc ρ st) (fun ρ st => exs g.PR C w ms ρ st) m F''.ρ F''.st), fun σ'' H'' q => ⟨m, by omega, q⟩, F'.to α' st', r1, ?_⟩⟩
      refine PostS.nxImp (PostS.bind (Dn' := { Dn with nx := fun σ'' H'' => ∃ F'', Lt (F'.to α' st') H1 F'' H'' ∧ Rep g F'' σ'' H'' ∧ PostS g EW Dn F'' H'' (whileL (fun ρ st => ev g.PR C mc ρ st) (fun ρ st => exs g.PR C w ms ρ st) m F''.ρ F''.st) }) p1 rfl rfl) rfl fun σ4 H4 ⟨F4, l4, r4, p4⟩ => ?_
      exact ⟨F4, l'.trans (lt.trans l4), r4, p4⟩
    · exact ⟨false, rfl, iteF (p1.nx Lt.refl r1 rfl rfl)⟩
    · exact p1.elim
end
end Mini
end
section
set_option Elab.async false
set_option linter.all false
set_option maxRecDepth 100000
set_option maxHeartbeats 2000000
/-! # Mini: fields are stored -/
namespace Mini
open PySem L2 PySem.Spec PyProof.Rows
theorem putF_app {f : Str} {y : V} : ∀ {l : List (Str × V)}, f ∉ l.map (·.1) → putF f y l = l ++ [(f, y)]
  | [], _ => rfl
  | (n, x) :: r, h => by
    simp only [List.map_cons, List.mem_cons, not_or] at h
    show (if n = f then (n, y) :: r else (n, x) :: putF f y r) = _
    rw [if_neg (fun e => h.1 e.symm), putF_app h.2]
    rfl
theorem take_zip {nm : Nat → Str} {y : V} {f : Nat} : ∀ {l : List Nat} {k : Nat} {vs : List V}, l[k]? = some f → vs.length = k → ((l.map nm).take k).zip vs ++ [(nm f, y)] = ((l.map nm).take (k + 1)).zip (vs ++ [y])
  | [], _, _, h, _ => by simp at h
  | f' :: l, 0, vs, h, hv => by
    have : vs = [] := List.length_eq_zero_iff.mp hv
    subst this
    simp at h
    subst h
    rfl
  | f' :: l, k + 1, [], h, hv => by simp at hv
  | f' :: l, k + 1, v :: vs, h, hv => by
    have := take_zip (nm := nm) (y := y) (l := l) (k := k) (vs := vs) (by simpa using h) (by simpa using hv)
    rw [List.map_cons, List.take_succ_cons, List.take_succ_cons, List.zip_cons_cons, List.cons_append, List.cons_append, List.zip_cons_cons, this]
theorem zip_keys {l : List Str} {vs : List V} {f : Str} (h : f ∈ (l.zip vs).map (·.1)) : f ∈ l := by
  obtain ⟨p, hp, rfl⟩ := List.mem_map.mp h
  exact (List.of_mem_zip hp).1
theorem put_zip {nm : Nat → Str} {y : V} {f : Nat} : ∀ {l : List Nat} {j : Nat} {vs : List V}, (∀ f', f' ∈ l → nm f' = nm f → f' = f) → l.findIdx? (· == f) = some j → j < vs.length → putF (nm f) y ((l.map nm).zip vs) = (l.map nm).zip (vs.set j y)
  | [], _, _, _, h, _ => by simp at h
  | f' :: l, j, [], _, _, h => by simp at h
  | f' :: l, j, v :: vs, inj, h, hj => by
    rw [List.map_cons, List.zip_cons_cons]
    by_cases e : f' = f
    · subst e
      simp [List.findIdx?_cons] at h
      subst h
      show (if nm f' = nm f' then _ else _) = _
      rw [if_pos rfl]
      rfl
    · show (if nm f' = nm f then _ else _) = _
      rw [if_neg fun q => e (inj f' List.mem_cons_self q)]
      have e2 : (f' == f) = false := beq_eq_false_iff_ne.mpr e
      have h' : (l.findIdx? (· == f)).map (· + 1) = some j := by simpa [List.findIdx?_cons, e2] using h
      obtain ⟨k, hk, rfl⟩ := Option.map_eq_some_iff.mp h'
      rw [put_zip (fun f'' hf => inj f'' (List.mem_cons_of_mem _ hf)) hk (by simpa using hj)]
      rfl
section
variable {g : G} {C : Calls} {EW : XK} {w : Nat} {X : Cx} {a b c e tg iter : Expr} {m ma mb mc : E} {pos : Pos}
theorem t_fld {mg : Str → Option Value} (T : Txt g mg) {i f : Nat} {x : Str} {p pos' : Pos} (hK : X.K = g.K) (hN : X.N[i]? = some x) (hv : Vis X.env.scope x) (hd : (x == ("__debug__" : Str)) = false) (hcd : (x == ("__classdict__" : Str)) = false) (h : PE X e (tE g C EW m))
    (hs : swapsWith e (some (.Attribute (.Name x p) (g.NM.fld f) pos')) pos.line X.env = pure false) : PS X (.Assign [.Attribute (.Name x p) (g.NM.fld f) pos'] e pos) (tS g C EW w (.set (.fld i f) m)) := by
  refine PS_imp (ps_fld (pe_var hN hv hd hcd) h hs) fun Dn σ H ⟨F, r, p⟩ => ?_
  simp only [ex] at p
  refine ⟨F, r, (p.out r).mono fun F1 H1 d ⟨lt, r1, ⟨α', st', e1⟩, p1⟩ v hv => ?_⟩
  subst e1
  obtain ⟨z, hz, p2⟩ := p1.opt
  simp only [asg] at hz
  unfold setFld at hz
  rw [hK]
  have ne : ∀ {c : Nat} {j : Nat}, (g.PR.flds c)[j]? = some f → f ∈ g.PR.flds c ∧ g.PR.flds c ≠ [] := fun h => ⟨List.mem_of_getElem? h, fun e => by rw [e] at h; simp at h⟩
  split at hz
  · rename_i c fs hfs
    split at hz
    case isFalse => cases hz
    rename_i hf
    cases hz
    have hf : (g.PR.flds c)[fs.length]? = some f := by simpa using hf
    obtain ⟨a, dx, vs, h1, h2, h3, h4, h5⟩ := r1.slots i _ (own_st hfs)
    obtain ⟨mem, nn⟩ := ne hf
    have hl := h5.length
    have nk : (g.names c).take fs.length = ((g.PR.flds c).map g.NM.fld).take fs.length := rfl
    have fresh : g.NM.fld f ∉ (((g.names c).take fs.length).zip vs).map (·.1) := fun z => by
      have z := zip_keys z
      rw [nk, ← List.map_take] at z
      obtain ⟨f', hf', e⟩ := List.mem_map.mp z
      have : f' = f := T.inj c f' f (List.mem_of_mem_take hf') mem e
      subst this
      obtain ⟨j, hj, e⟩ := List.mem_iff_getElem.mp hf'
      rw [List.length_take] at hj
      rw [List.getElem_take] at e
      have e1 : (g.PR.flds c)[j]? = some f' := by rw [List.getElem?_eq_getElem (by omega), e]
      have := nodup_ix (T.nodup c) e1 hf
      omega
    have hi : i < F.ρ.length := (List.getElem?_eq_some_iff.mp hfs).1
    have mu : (F.to α' st').μ a := .inr (.inr (join_mem h1))
    refine ⟨.ref a, join_some h2, a, _, dx, _, rfl, h3, T.cls c nn, T.noat c f mem, ?_, ?_⟩
    · rw [List.length_zip, List.length_take]
      have := T.few c
      have : (g.names c).length = (g.PR.flds c).length := by simp
      omega
    · refine p2.nx (Lt.chg mu) (r1.chgOwn (s' := .ownI c (fs ++ [d])) hi h1 h3 ⟨fun _ => nofun, fun _ => nofun⟩ ⟨a, dx, vs ++ [v], rfl, h2, ?_, ?_, ?_⟩ (hI := fun _ _ _ => ⟨c, fs, own_st hfs⟩)) rfl rfl
      · rw [upd_same, putF_app fresh, List.length_append]
        exact congrArg some (congrArg _ (take_zip (nm := g.NM.fld) (y := v) hf hl.symm))
      · rw [List.length_append]
        have := (List.getElem?_eq_some_iff.mp hf).1
        simp
        omega
      · exact (mono_mu mu).ats _ _ (h5.append (Ats.one hv))
  · rename_i k hk
    split at hz
    case h_2 => cases hz
    rename_i c fs hst
    split at hz
    case h_2 => cases hz
    rename_i j hj
    split at hz
    case isFalse => cases hz
    rename_i hjl
    cases hz
    obtain ⟨v0, h2, a, rfl, hak⟩ := r1.slots i _ (own_st hk)
    have hst : st'[k]? = some (.ins c fs) := hst
    obtain ⟨a', ha', dx, vs, hH, hlen, hvs⟩ := r1.objs k _ hst
    have ea : a' = a := Option.some.inj (ha'.symm.trans hak)
    subst ea
    obtain ⟨mem, nn⟩ := ne (findIdx_beq hj).1
    have mu : (F.to α' st').μ a' := .inr (.inl (List.mem_of_getElem? ha'))
    refine ⟨.ref a', join_some h2, a', _, dx, _, rfl, hH, T.cls c nn, T.noat c f mem, ?_, ?_⟩
    · rw [List.length_zip]
      have := T.few c
      have : (g.names c).length = (g.PR.flds c).length := by simp
      omega
    · refine p2.nx (Lt.chg mu) (r1.chgObj (so := .ins c (fs.set j d)) ha' hH ⟨fun _ => nofun, fun _ => nofun⟩ (List.getElem?_eq_some_iff.mp hst).1 ⟨dx, vs.set j v, ?_, ?_, ?_⟩) rfl rfl
      · rw [upd_same]
        exact congrArg some (congrArg _ (put_zip (nm := g.NM.fld) (fun f' hf' e => T.inj c f' f hf' mem e) hj (by rw [← hvs.length]; exact hjl)))
      · rw [List.length_set]; exact hlen
      · exact (mono_mu mu).ats _ _ (Ats.set hv _ hvs)
  · cases hz
end
end Mini
end
section
set_option Elab.async false
set_option linter.all false
set_option maxRecDepth 100000
set_option maxHeartbeats 2000000
/-! # Mini: calls -/
namespace Mini
open PySem L2 PySem.Spec PyProof.Rows
/-- a def keeps its promise where no guard is up -/
structure FnG (P : Program) (w : World) (K : PySem.W.Frag) (mg : Str → Option Value) (base : Heap) (k : Nat) (f : Addr) (fd : FuncData) (ps : List Str) (sp : Sp) : Prop where
  len : ∀ vs H Q E, sp vs H Q E → vs.length = ps.length
  run : ∀ (A : Around) (outer : List PySem.Env) (s : Shared) (H : Hp) (args : Args) (us : List Value) (vs : List V) (Q : VK) (E : XK), A.guards = some [] → Room k A → Env0 P w K mg base A outer s H → BindsTo s fd args (ps.zip us) → Vals vs us → sp vs H Q E →
    codeAny (model P w) A (.call (.ref f) args) (CR (L2.CX P w) outer P w H s Q E) s
section
variable {X : Cx} {k : Nat} {f Cc : Addr} {fd : FuncData} {ps : List Str} {sp : Sp} {E : XK} {x m : Str} {p pos apos : Pos} {e o : Expr} {es : List Expr} {ta : TE} {t : TA}
theorem run_fnG {pins : List (Addr × Obj)} {σ : L2.St} {H : Hp} {s : Shared} {Q : VK} {us : List Value} {vs : List V} (F : FnG X.prog X.w X.K X.mg X.base k f fd ps sp) (hg : X.A.guards = some []) (hr : Room k X.A) (hb : Binds X.K fd ps []) (hx : Passes (L2.CX X.prog X.w) X E)
    (I : Inv X pins σ H s) (r : Vals vs us) (h : sp vs H Q E) : wpAny (model X.prog X.w) X.A (call (.ref f) us) (EP X pins σ Q) X.xe s := by
  have hl : (us ++ ([] : List Value)).length = ps.length := by rw [List.append_nil, ← r.length]; exact F.len _ _ _ _ h
  have hb' := hb s us I.kIn hl
  rw [List.append_nil] at hb'
  refine wpAny_call (codeAny_mono (F.run X.A X.stack s H ⟨us, []⟩ us vs Q E hg hr I.env0 hb' r h) fun r s' hq => ?_)
  cases r with
  | error e => exact hx pins σ H s e s' I hq
  | ok fl =>
    cases fl with
    | ret u => exact I.after hq
    | next => exact False.elim hq
    | brk => exact False.elim hq
    | cont => exact False.elim hq
/-- f(..), the promise told late -/
def tCallG (sp : Sp) (E : XK) (t : TA) : TE := fun σ H Q => t σ H fun vs H1 => sp vs H1 Q E
theorem pe_callG (F : FnG X.prog X.w X.K X.mg X.base k f fd ps sp) (hgd : X.A.guards = some []) (hr : Room k X.A) (hg : Gl X x) (hm : X.mg x = some (.ref f)) (hk : PySem.W.keepIn X.K (.ref f) = true) (hb : Binds X.K fd ps []) (hx : Passes (L2.CX X.prog X.w) X E)
    (ha : PA X (e :: es) t) (hdb : (x == ("__debug__" : Str)) = false) (he : starEach (e :: es) X.env = (false, eval e X.env) :: starEach es X.env) (hpl : (backTo pos (starEach es X.env)).any (·.1) = false) :
    PE X (.Call (.Name x p) (e :: es) [] pos) (tCallG sp E t) := by
  refine ⟨fun pins s σ H Q I h => ?_⟩
  refine wpAny_Call_Name_kw (ld_glob I hg hm ?_ hdb)
  refine PySem.W.callWith_K (h₀ := X.base) I.ok.mod.kin hk (thn (ha.run pos pins s σ H _ I h) fun us s1 ⟨vs, H1, I1, r, q⟩ => ⟨I1.kIn, ?_⟩) he hpl
  exact run_fnG F hgd hr hb hx I1 r q
theorem pe_callG0 (F : FnG X.prog X.w X.K X.mg X.base k f fd ps sp) (hgd : X.A.guards = some []) (hr : Room k X.A) (hg : Gl X x) (hm : X.mg x = some (.ref f)) (hk : PySem.W.keepIn X.K (.ref f) = true) (hb : Binds X.K fd ps []) (hx : Passes (L2.CX X.prog X.w) X E)
    (hdb : (x == ("__debug__" : Str)) = false) : PE X (.Call (.Name x p) [] [] pos) (tCallG sp E tNil) := by
  refine ⟨fun pins s σ H Q I h => ?_⟩
  refine wpAny_Call_Name_kw (ld_glob I hg hm ?_ hdb)
  exact PySem.W.callWith_K0 I.kIn hk (run_fnG (us := []) F hgd hr hb hx I .nil h)
/-- a local name that holds a def -/
def tCallLG (i : Nat) (f : Addr) (sp : Sp) (E : XK) (t : TA) : TE := fun σ H Q => σ[i]? = some (some (.ref f)) ∧ t σ H fun vs H1 => sp vs H1 Q E
theorem pe_callLG {i : Nat} (F : FnG X.prog X.w X.K X.mg X.base k f fd ps sp) (hgd : X.A.guards = some []) (hr : Room k X.A) (hN : X.N[i]? = some x) (hv : Vis X.env.scope x) (hk : PySem.W.keepIn X.K (.ref f) = true) (hb : Binds X.K fd ps []) (hx : Passes (L2.CX X.prog X.w) X E) (ha : PA X (e :: es) t)
    (hdb : (x == ("__debug__" : Str)) = false) (hcd : (x == ("__classdict__" : Str)) = false)
    (he : starEach (e :: es) X.env = (false, eval e X.env) :: starEach es X.env) (hpl : (backTo pos (starEach es X.env)).any (·.1) = false) : PE X (.Call (.Name x p) (e :: es) [] pos) (tCallLG i f sp E t) := by
  refine ⟨fun pins s σ H Q I h => ?_⟩
  obtain ⟨hs, ht⟩ := h
  refine wpAny_Call_Name_kw (thn ((pe_var (pos := p) hN hv hdb hcd).run pins s σ H (fun v H1 => v = .ref f ∧ H1 = H) I ⟨.ref f, hs, rfl, rfl⟩) fun u s1 ⟨v, H1, I1, r1, q1⟩ => ?_)
  obtain ⟨rfl, rfl⟩ := q1
  cases r1
  refine PySem.W.callWith_K (h₀ := X.base) I.ok.mod.kin hk (thn (ha.run pos pins s1 σ _ _ I1 ht) fun us s2 ⟨vs, H2, I2, r, q⟩ => ⟨I2.kIn, ?_⟩) he hpl
  exact run_fnG F hgd hr hb hx I2 r q
/-- o.m(e, ..) -/
def tMethG (C : Addr) (m : Str) (sp : Sp) (E : XK) (ta : TE) (t : TA) : TE := fun σ H Q => ta σ H fun x H1 => ∃ a dx fs, x = .ref a ∧ H1 a = some (.ins C dx fs) ∧ fs.lookup m = none ∧ t σ H1 fun vs H2 => sp (x :: vs) H2 Q E
theorem run_makeG {pins : List (Addr × Obj)} {σ : L2.St} {H : Hp} {s : Shared} {Q : VK} {us : List Value} {vs : List V} (M : Mk X.K Cc f) (F : FnG X.prog X.w X.K X.mg X.base k f fd ps sp) (hgd : X.A.guards = some []) (hr : Room (k + 1) X.A) (hb : Binds X.K fd ps [])
    (hx : Passes (L2.CX X.prog X.w) X E) (I : Inv X pins σ H s) (r : Vals vs us)
    (h : ∀ x dx, H x = none → H dx = none → dx ≠ x → sp (.ref x :: vs) (upd (upd H dx (.own x)) x (.ins Cc dx [])) (fun v H2 => v = .non ∧ Q (.ref x) H2) E) :
    wpAny (model X.prog X.w) X.A (call (.ref Cc) us) (EP X pins σ Q) X.xe s := by
  have hq := h (s.heap.objs.size + 1) s.heap.objs.size (I.hok.fresh (Nat.le_succ _)) (I.hok.fresh (Nat.le_refl _)) (Nat.ne_of_lt (Nat.lt_succ_self _))
  have I2 := Inv.made (C := Cc) I
  have r2 : Vals (V.ref (s.heap.objs.size + 1) :: vs) (Value.ref (s.heap.objs.size + 1) :: us) := .cons rfl r
  have hl : (Value.ref (s.heap.objs.size + 1) :: us ++ ([] : List Value)).length = ps.length := by
    have e := r2.length
    rw [F.len _ _ _ _ hq] at e
    rw [List.append_nil]
    exact e.symm
  have hb' := hb _ (Value.ref (s.heap.objs.size + 1) :: us) I2.kIn hl
  rw [List.append_nil] at hb'
  refine wpAny_call (make_map (f := f) I.kIn M.makes M.init (beq_iff_eq.mp M.fn) (codeAny_mono (F.run _ X.stack _ _ ⟨Value.ref (s.heap.objs.size + 1) :: us, []⟩ (Value.ref (s.heap.objs.size + 1) :: us) _ _ E hgd (hr.make Cc us [])
    (I2.env0.make Cc us []) hb' r2 hq) fun r s' hq' => ?_))
  cases r with
  | error e => exact hx pins σ _ _ e s' I2 hq'
  | ok fl =>
    cases fl with
    | ret u =>
      obtain ⟨v, H', I3, rv, ev, q3⟩ := I2.after hq'
      subst ev
      exact ⟨rv, ⟨V.ref (s.heap.objs.size + 1), H', I3, rfl, q3⟩⟩
    | next => exact False.elim hq'
    | brk => exact False.elim hq'
    | cont => exact False.elim hq'
def tMakeG (C : Addr) (sp : Sp) (E : XK) (t : TA) : TE := fun σ H Q => t σ H fun vs H1 => ∀ x dx, H1 x = none → H1 dx = none → dx ≠ x →
  sp (.ref x :: vs) (upd (upd H1 dx (.own x)) x (.ins C dx [])) (fun v H2 => v = .non ∧ Q (.ref x) H2) E
theorem pe_makeG (M : Mk X.K Cc f) (F : FnG X.prog X.w X.K X.mg X.base k f fd ps sp) (hgd : X.A.guards = some []) (hr : Room (k + 1) X.A) (hg : Gl X x) (hm : X.mg x = some (.ref Cc)) (hb : Binds X.K fd ps []) (hx : Passes (L2.CX X.prog X.w) X E)
    (ha : PA X (e :: es) t) (hdb : (x == ("__debug__" : Str)) = false) (he : starEach (e :: es) X.env = (false, eval e X.env) :: starEach es X.env) (hpl : (backTo pos (starEach es X.env)).any (·.1) = false) :
    PE X (.Call (.Name x p) (e :: es) [] pos) (tMakeG Cc sp E t) := by
  refine ⟨fun pins s σ H Q I h => ?_⟩
  refine wpAny_Call_Name_kw (ld_glob I hg hm ?_ hdb)
  refine PySem.W.callWith_K (h₀ := X.base) I.ok.mod.kin M.kp (thn (ha.run pos pins s σ H _ I h) fun us s1 ⟨vs, H1, I1, r, q⟩ => ⟨I1.kIn, ?_⟩) he hpl
  exact run_makeG M F hgd hr hb hx I1 r q
theorem pe_makeG0 (M : Mk X.K Cc f) (F : FnG X.prog X.w X.K X.mg X.base k f fd ps sp) (hgd : X.A.guards = some []) (hr : Room (k + 1) X.A) (hg : Gl X x) (hm : X.mg x = some (.ref Cc)) (hb : Binds X.K fd ps []) (hx : Passes (L2.CX X.prog X.w) X E)
    (hdb : (x == ("__debug__" : Str)) = false) : PE X (.Call (.Name x p) [] [] pos) (tMakeG Cc sp E tNil) := by
  refine ⟨fun pins s σ H Q I h => ?_⟩
  refine wpAny_Call_Name_kw (ld_glob I hg hm ?_ hdb)
  exact PySem.W.callWith_K0 I.kIn M.kp (run_makeG (us := []) M F hgd hr hb hx I .nil h)
end
/-! ### the promise by the evaluator -/
section
variable (g : G) (C : Calls)
/-- a def -/
def spF (f : Nat) : Sp := fun vs H Q E => ∃ F ds, F.ρ = [] ∧ F.ω = [] ∧ Rep g F [] H ∧ Ats g F.μ F.α H ds vs ∧ PostK g E F [] H (fun F' H' d => ∀ v, At g F'.μ F'.α H' d v → Q v H') (C.call f ds F.st)
/-- the state behind an __init__: x is made -/
def PostI (Q : VK) (E : XK) (F : Fr) (x : Addr) (c : Nat) : R (List D) → Prop
  | .ok fs st => ∀ H' α' dx us, Nx F.α0 F.H0 α' H' → ¬ (F.to α' st).μ x → Rep g ((F.to α' st).plus x) [] H' → H' x = some (.ins (g.AD.c c) dx ((g.names c).zip us)) → fs.length = (g.PR.flds c).length → Ats g ((F.to α' st).plus x).μ α' H' fs us → Q .non H'
  | .exc c' d st => ∀ H' α' v dx, Nx F.α0 F.H0 α' H' → Rep g (F.to α' st) [] H' → At g (F.to α' st).μ α' H' d v → H' dx = some (.xd [("value", v)]) → E (.ref (g.AD.e c')) (some dx) H'
  | .bad => False
/-- an __init__: x is the new instance -/
def spI (c : Nat) : Sp := fun vs H Q E => ∃ F ds x ws, vs = .ref x :: ws ∧ F.ρ = [] ∧ F.ω = [] ∧ ¬ F.μ x ∧ ¬ Ob F.H0 x ∧ F.α = F.α0 ∧ (∃ dx, H x = some (.ins (g.AD.c c) dx [])) ∧ Rep g (F.plus x) [] H ∧ Ats g (F.plus x).μ F.α H ds ws ∧ PostI g Q E F x c (C.init c ds F.st)
end
/-- a frame as its callee sees it -/
abbrev Fr.cut (F : Fr) : Fr := { F with ν := fun a => F.ν a ∨ some a ∈ F.ω, ω := [], ρ := [] }
section
variable {g : G} {F : Fr} {σ : L2.St} {H : Hp}
theorem Fr.cut_mu {a : Addr} : F.cut.μ a ↔ F.μ a := by
  constructor
  · rintro ((z | z) | z | z)
    · exact .inl z
    · exact .inr (.inr z)
    · exact .inr (.inl z)
    · cases z
  · rintro (z | z | z)
    · exact .inl (.inl z)
    · exact .inr (.inl z)
    · exact .inl (.inr z)
theorem Rep.cut (r : Rep g F σ H) : Rep g F.cut [] H := by
  have m : Mono F.μ F.cut.μ F.α F.α H H := ⟨fun _ _ h _ _ => h, fun a _ z => Fr.cut_mu.mp z, fun _ _ h => h⟩
  refine ⟨r.ent, fun a h => (nomatch h), r.al0, List.nodup_nil, r.nda, fun a h => ?_, r.tabs, r.alen, fun k o h => ?_, rfl, rfl, fun i s h => by simp at h, fun i c fs h => by simp at h⟩
  · rcases h with h | h
    · exact ⟨(r.nu a h).1, (r.nu a h).2.1, by simp⟩
    · exact ⟨(r.ow0 a h).2.1, (r.ow0 a h).2.2, by simp⟩
  · obtain ⟨a, ha, q⟩ := r.objs k o h
    refine ⟨a, ha, ?_⟩
    cases o with
    | lst l =>
      obtain ⟨vs, h1, h2⟩ := q
      exact ⟨vs, h1, m.ats _ _ h2⟩
    | ins c fs =>
      obtain ⟨dx, vs, h1, hl, h2⟩ := q
      exact ⟨dx, vs, h1, hl, m.ats _ _ h2⟩
theorem mono_cut : Mono F.μ F.cut.μ F.α F.α H H := ⟨fun _ _ h _ _ => h, fun a _ z => Fr.cut_mu.mp z, fun _ _ h => h⟩
theorem mono_uncut : Mono F.cut.μ F.μ F.α F.α H H := ⟨fun _ _ h _ _ => h, fun a _ z => Fr.cut_mu.mpr z, fun _ _ h => h⟩
/-- a callee's promise, from the caller's wish -/
theorem PostK.cut {β : Type} {EW : XK} {k k' : Fr → Hp → β → Prop} {r : R β} (hr : Rep g F σ H) (p : PostK g EW F σ H k r) (h : ∀ α' st' H' b, Nx F.α H α' H' → Rep g (F.to α' st') σ H' → k (F.to α' st') H' b → k' (F.cut.to α' st') H' b) : PostK g EW F.cut [] H k' r := by
  have back : ∀ {α' : List Addr} {st' : Store} {H' : Hp}, Nx F.α H α' H' → Rep g (F.cut.to α' st') [] H' → Rep g (F.to α' st') σ H' := fun {α' st' H'} n r' => Rep.back (F' := F.cut.to α' st') hr n r' fun a z => (Fr.cut_mu (F := F.to α' st')).mpr z
  cases r with
  | ok b st => exact fun H' α' n r' => h α' st H' b n (back n r') (p H' α' n (back n r'))
  | exc c d st => exact fun H' α' v dx n r' a hd => p H' α' v dx n (back n r') (mono_uncut.at _ _ a) hd
  | bad => exact p
end
end Mini
end
section
set_option Elab.async false
set_option linter.all false
set_option maxRecDepth 100000
set_option maxHeartbeats 2000000
/-! # Mini: calls of defs, classes, methods -/
namespace Mini
open PySem L2 PySem.Spec PyProof.Rows
/-- all defs keep the evaluator's promise, down to the level -/
structure DefsG (g : G) (P : Program) (w : World) (K : PySem.W.Frag) (mg : Str → Option Value) (base : Heap) (k : Nat) (C : Calls) : Prop where
  fn : ∀ f, (g.PR.defs f).isSome = true → ∃ rec ps, FnG P w K mg base k (g.AD.f f) rec ps (spF g C f) ∧ PySem.W.keepIn K (.ref (g.AD.f f)) = true ∧ Binds K rec ps []
  cls : ∀ c, g.PR.flds c ≠ [] → ∃ fI rec ps, Mk K (g.AD.c c) fI ∧ FnG P w K mg base k fI rec ps (spI g C c) ∧ Binds K rec ps []
  meth : ∀ c m f, g.PR.meth c m = some f → (g.PR.defs f).isSome = true ∧ Cls K (g.AD.c c) ∧ Meth K (g.AD.c c) (g.NM.met m) (g.AD.f f) ∧ g.NM.met m ∉ g.names c
/-- an error's __init__ that stores its value -/
def spX (K : PySem.W.Frag) : Sp := fun vs H Q E => ∃ a Cc v, vs = [.ref a, v] ∧ OexC K Cc ∧ PySem.W.findIn K (.ref Cc) "value" = some none ∧ H a = some (exo a Cc none) ∧ ∀ dx, H dx = none → dx ≠ a → Q .non (upd (upd H dx (exd dx [("value", v)])) a (exo a Cc (some dx)))
/-- the own errors -/
structure ExG (g : G) (P : Program) (w : World) (K : PySem.W.Frag) (mg : Str → Option Value) (base : Heap) : Prop where
  ini : ∃ fI rec k, PySem.W.typeIn K (.ref fI) = some (.type "function") ∧ FnOk P w K mg base (L2.CX P w) 1 fI rec k (spX K) ∧ Binds K rec k [] ∧ ∀ c, c < g.NM.nE → PySem.W.findIn K (.ref (g.AD.e c)) "__init__" = some (some (.ref fI))
  cls : ∀ c, c < g.NM.nE → OexC K (g.AD.e c) ∧ PySem.W.findIn K (.ref (g.AD.e c)) "value" = some none ∧ XfC K (g.AD.e c)
  exm : ∀ c c', c < g.NM.nE → c' < g.NM.nE → PySem.W.exmOne K (.ref (g.AD.e c)) (.ref (g.AD.e c')) = some (c == c')
  nam : ∀ c, c < g.NM.nE → mg (g.NM.exc c) = some (.ref (g.AD.e c))
/-- the context of a body -/
structure Bd (g : G) (C : Calls) (EW : XK) (X : Cx) : Prop where
  K : X.K = g.K
  txt : Txt g X.mg
  guards : X.A.guards = some []
  nodup : X.N.Nodup
  takes : Takes X (fun cls d _ H => EW cls d H)
  defs : ∃ k, Room (k + 1) X.A ∧ DefsG g X.prog X.w X.K X.mg X.base k C
  room : Room 2 X.A
  exs : ExG g X.prog X.w X.K X.mg X.base
theorem Bd.passes {g : G} {C : Calls} {EW : XK} {X : Cx} (B : Bd g C EW X) : Passes (L2.CX X.prog X.w) X EW := passes_call B.takes fun _ _ _ _ h => h
theorem Bd.units {g : G} {C : Calls} {EW : XK} {X : Cx} (B : Bd g C EW X) : X.A.units + 65 < cLine := by have := B.room.un; omega
section
variable {g : G} {C : Calls} {EW : XK} {X : Cx} {x : Str} {p pos apos : Pos} {e o : Expr} {es : List Expr} {m : E} {ms : List E}
theorem spF_of {F1 : Fr} {σ : L2.St} {H1 : Hp} {f : Nat} {ds : List D} {vs : List V} {Q : VK} (r1 : Rep g F1 σ H1) (hv : Ats g F1.μ F1.α H1 ds vs) (p : PostK g EW F1 σ H1 (fun F' H' d => ∀ v, At g F'.μ F'.α H' d v → Q v H') (C.call f ds F1.st)) : spF g C f vs H1 Q EW :=
  ⟨F1.cut, ds, rfl, rfl, r1.cut, mono_cut.ats _ _ hv, PostK.cut r1 p fun α' st' H' b n r' k v hv => k v ((mono_uncut (F := F1.to α' st')).at _ _ hv)⟩
theorem s_callf (B : Bd g C EW X) {f : Nat} (hf : (g.PR.defs f).isSome = true) (hg : Gl X x) (hm : X.mg x = some (.ref (g.AD.f f))) (hdb : (x == ("__debug__" : Str)) = false) (ha : PA X (e :: es) (tAs g C EW ms)) (he : starEach (e :: es) X.env = (false, eval e X.env) :: starEach es X.env) (hpl : (backTo pos (starEach es X.env)).any (·.1) = false) :
    PE X (.Call (.Name x p) (e :: es) [] pos) (tE g C EW (.call f ms)) := by
  obtain ⟨k, hr, Df⟩ := B.defs
  obtain ⟨rec, ps, Fn, hk, hb⟩ := Df.fn f hf
  refine PE_imp (pe_callG Fn B.guards (hr.mono (Nat.le_succ _)) hg hm hk hb B.passes ha hdb he hpl) fun σ H Q ⟨F, r, p⟩ => ⟨F, r, p.bind.mono fun F1 H1 ds ⟨n1, r1, _, p1⟩ vs hv => spF_of r1 hv p1⟩
theorem s_callf0 (B : Bd g C EW X) {f : Nat} (hf : (g.PR.defs f).isSome = true) (hg : Gl X x) (hm : X.mg x = some (.ref (g.AD.f f))) (hdb : (x == ("__debug__" : Str)) = false) : PE X (.Call (.Name x p) [] [] pos) (tE g C EW (.call f [])) := by
  obtain ⟨k, hr, Df⟩ := B.defs
  obtain ⟨rec, ps, Fn, hk, hb⟩ := Df.fn f hf
  refine PE_imp (pe_callG0 Fn B.guards (hr.mono (Nat.le_succ _)) hg hm hk hb B.passes hdb) fun σ H Q ⟨F, r, p⟩ => ?_
  simp only [ev, evs, R.bind] at p
  exact spF_of (ds := []) (vs := []) r rfl p
theorem s_cvar (B : Bd g C EW X) {i : Nat} (hN : X.N[i]? = some x) (hv : Vis X.env.scope x) (ha : PA X (e :: es) (tAs g C EW ms)) (hdb : (x == ("__debug__" : Str)) = false) (hcd : (x == ("__classdict__" : Str)) = false) (he : starEach (e :: es) X.env = (false, eval e X.env) :: starEach es X.env) (hpl : (backTo pos (starEach es X.env)).any (·.1) = false) :
    PE X (.Call (.Name x p) (e :: es) [] pos) (tE g C EW (.cvar i ms)) := by
  refine ⟨fun pins s σ H Q I h => ?_⟩
  obtain ⟨F, r, q⟩ := h
  simp only [ev] at q
  split at q
  case h_2 => exact q.elim
  rename_i f hf
  obtain ⟨v0, h2, h3⟩ := r.slots i _ hf
  have h3 : v0 = .ref (g.AD.f f) := h3
  subst h3
  obtain ⟨k, hr, Df⟩ := B.defs
  split at q
  case isFalse => exact q.elim
  rename_i hd
  obtain ⟨rec, ps, Fn, hk, hb⟩ := Df.fn f hd
  exact (pe_callLG Fn B.guards (hr.mono (Nat.le_succ _)) hN hv hk hb B.passes ha hdb hcd he hpl).run pins s σ H Q I ⟨join_some h2, F, r, q.bind.mono fun F1 H1 ds ⟨n1, r1, _, p1⟩ vs hv => spF_of r1 hv p1⟩
/-! ### classes -/
theorem Rep.rebase {F : Fr} {H : Hp} (r : Rep g F [] H) (h : F.ω = []) : Rep g { F with α0 := F.α, H0 := H } [] H := by
  refine ⟨Nx.refl _ _, fun a z => ?_, r.al0, r.nd, r.nda, r.nu, r.tabs, r.alen, r.objs, r.len, r.wlen, r.slots, r.me⟩
  have z : some a ∈ F.ω := z
  rw [h] at z
  cases z
theorem spI_of {F1 : Fr} {σ : L2.St} {H1 : Hp} {c : Nat} {ds : List D} {vs : List V} {Q : VK} (r1 : Rep g F1 σ H1) (hv : Ats g F1.μ F1.α H1 ds vs)
    (p : PostK g EW F1 σ H1 (fun F' H' d => ∀ v, At g F'.μ F'.α H' d v → Q v H') ((C.init c ds F1.st).bind fun fs st => if g.PR.chg c then .ok (.ptr st.length) (st ++ [.ins c fs]) else .ok (.ins c fs) st)) (x dx : Addr) (hx : H1 x = none) (hdx : H1 dx = none) (hne : dx ≠ x) :
    spI g C c (.ref x :: vs) (upd (upd H1 dx (.own x)) x (.ins (g.AD.c c) dx [])) (fun v H2 => v = .non ∧ Q (.ref x) H2) EW := by
  have rc := r1.cut.rebase rfl
  have rd := rc.new (o := .own x) hdx
  have hx2 : upd H1 dx (.own x) x = none := by rw [upd_ne hne.symm]; exact hx
  have rx := rd.plusNew (o := .ins (g.AD.c c) dx []) hx2
  have hnμ : ¬ F1.cut.μ x := rd.new_mu hx2
  have a1 := rc.atsNew (o := .own x) hdx (mono_cut.ats _ _ hv)
  have a2 := (mono_plusNew (F := { F1.cut with α0 := F1.α, H0 := H1 }) (o := .ins (g.AD.c c) dx []) hx2).ats _ _ a1
  refine ⟨{ F1.cut with α0 := F1.α, H0 := H1 }, ds, x, vs, rfl, rfl, rfl, hnμ, not_ob hx, rfl, ⟨dx, upd_same⟩, rx, a2, ?_⟩
  show PostI g _ EW { F1.cut with α0 := F1.α, H0 := H1 } x c (C.init c ds F1.st)
  have bk : ∀ {α' : List Addr} {st' : Store} {H' : Hp}, Nx F1.α H1 α' H' → Rep g (F1.cut.to α' st') [] H' → Rep g (F1.to α' st') σ H' := fun {α' st' H'} n r' => Rep.back (F' := F1.cut.to α' st') r1 n r' fun a z => (Fr.cut_mu (F := F1.to α' st')).mpr z
  have reb : ∀ {α' : List Addr} {st' : Store} {H' : Hp}, Nx F1.α H1 α' H' → Rep g ({ ({ F1.cut with α0 := F1.α, H0 := H1 } : Fr) with α := α', st := st' }) [] H' → Rep g (F1.cut.to α' st') [] H' := fun {α' st' H'} n r' =>
    ⟨r1.ent.trans n, fun a z => (nomatch z), r'.al0, r'.nd, r'.nda, r'.nu, r'.tabs, r'.alen, r'.objs, r'.len, r'.wlen, r'.slots, r'.me⟩
  cases hi : C.init c ds F1.st with
  | bad => rw [hi] at p; exact p.elim
  | exc c' d st' =>
    rw [hi] at p
    intro H' α' v dx' n r' hat hdx'
    exact p H' α' v dx' n (bk n (reb n r')) (mono_uncut.at _ _ hat) hdx'
  | ok fs st' =>
    rw [hi] at p
    simp only [R.bind] at p
    intro H' α' dx' us n hnx r' hH hl hat
    refine ⟨rfl, ?_⟩
    split at p
    · -- comes into the store
      have ra := r'.alpha (so := .ins c fs) (not_ob hx) hnx fun μ' α2 m => ⟨dx', us, hH, hl, m.ats _ _ hat⟩
      have n2 : Nx F1.α H1 (α' ++ [x]) H' := by
        refine ⟨n.keep, n.there, ?_⟩
        obtain ⟨β, e, nb⟩ := n.pre
        exact ⟨β ++ [x], by rw [e, List.append_assoc], fun a z => (List.mem_append.mp z).elim (nb a) fun z => by rw [List.mem_singleton.mp z]; exact not_ob hx⟩
      refine p H' (α' ++ [x]) n2 (bk n2 (reb n2 ra)) (.ref x) ⟨x, rfl, ?_⟩
      have : α'.length = st'.length := r'.alen
      show (α' ++ [x])[st'.length]? = some x
      rw [← this, List.getElem?_concat_length]
    · refine p H' α' n (bk n (reb n r'.unplus)) (.ref x) ⟨x, dx', us, rfl, fun z => hnx ((Fr.cut_mu (F := F1.to α' st')).mpr z), hH, hl, mono_uncut.ats _ _ ((mono_unplus (F := F1.cut.to α' st')).ats _ _ hat)⟩
theorem s_mk (B : Bd g C EW X) {c : Nat} (hc : g.PR.flds c ≠ []) (hg : Gl X x) (hm : X.mg x = some (.ref (g.AD.c c))) (hdb : (x == ("__debug__" : Str)) = false) (ha : PA X (e :: es) (tAs g C EW ms)) (he : starEach (e :: es) X.env = (false, eval e X.env) :: starEach es X.env) (hpl : (backTo pos (starEach es X.env)).any (·.1) = false) :
    PE X (.Call (.Name x p) (e :: es) [] pos) (tE g C EW (.mk c ms)) := by
  obtain ⟨k, hr, Df⟩ := B.defs
  obtain ⟨fI, rec, ps, M, Fn, hb⟩ := Df.cls c hc
  refine PE_imp (pe_makeG M Fn B.guards hr hg hm hb B.passes ha hdb he hpl) fun σ H Q ⟨F, r, p⟩ => ⟨F, r, p.bind.mono fun F1 H1 ds ⟨n1, r1, _, p1⟩ vs hv => ?_⟩
  exact fun x dx hx hdx hne => spI_of r1 hv p1 x dx hx hdx hne
theorem s_mk0 (B : Bd g C EW X) {c : Nat} (hc : g.PR.flds c ≠ []) (hg : Gl X x) (hm : X.mg x = some (.ref (g.AD.c c))) (hdb : (x == ("__debug__" : Str)) = false) : PE X (.Call (.Name x p) [] [] pos) (tE g C EW (.mk c [])) := by
  obtain ⟨k, hr, Df⟩ := B.defs
  obtain ⟨fI, rec, ps, M, Fn, hb⟩ := Df.cls c hc
  refine PE_imp (pe_makeG0 M Fn B.guards hr hg hm hb B.passes hdb) fun σ H Q ⟨F, r, p⟩ => ?_
  simp only [ev, evs, R.bind] at p
  exact fun x dx hx hdx hne => spI_of (ds := []) (vs := []) r rfl p x dx hx hdx hne
/-! ### methods -/
theorem s_meth (B : Bd g C EW X) {mt : Nat} {pl : Sem Bool} (ho : PE X o (tE g C EW m)) (ha : PA X (e :: es) (tAs g C EW ms)) (hst : starEach (e :: es) X.env = (false, eval e X.env) :: starEach es X.env) (hpl : (backTo pos (starEach es X.env)).any (·.1) = false)
    (ht : eval (.Call (.Attribute o (g.NM.met mt) apos) (e :: es) [] pos) X.env = (do
      let ov ← eval o X.env
      standAt apos.atName
      let (f, first) ← holding [ov] (getMethod ov (g.NM.met mt) pl)
      callWith pos f first (backTo pos (starEach (e :: es) X.env)) (backToKw pos (keywordEach [] X.env)))) :
    PE X (.Call (.Attribute o (g.NM.met mt) apos) (e :: es) [] pos) (tE g C EW (.meth m mt ms)) := by
  obtain ⟨k, hr, Df⟩ := B.defs
  refine ⟨fun pins s σ H Q I h => ?_⟩
  obtain ⟨F, r, p⟩ := h
  simp only [ev] at p
  refine PySem.W.methodCall_KW (pl := pl) (thn (ho.run pins s σ H (fun v H1 => ∃ F1 x c f a dx fs, Rep g F1 σ H1 ∧ At g F1.μ F1.α H1 x (.ref a) ∧ v = .ref a ∧ g.PR.meth c mt = some f ∧ H1 a = some (.ins (g.AD.c c) dx ((g.names c).zip fs)) ∧
      PostK g EW F1 σ H1 (fun F' H' d => ∀ v, At g F'.μ F'.α H' d v → Q v H') ((evs g.PR C ms F1.ρ F1.st).bind fun ds st => C.call f (x :: ds) st)) I ⟨F, r, p.bind.mono fun F1 H1 x ⟨n1, r1, ⟨α', st', e1⟩, p1⟩ v hv => ?_⟩) fun u s1 ⟨v, H1, I1, rx, F1, x, c, f, a, dx, fs, r1, hx, ex, hm, hH, p1⟩ => ?_) ht
  · subst e1
    cases x with
    | ins c fs =>
      try simp only at p1
      cases hm : g.PR.meth c mt with
      | none => simp only [hm] at p1; exact p1.elim
      | some f =>
        simp only [hm] at p1
        obtain ⟨a, dx, vs, rfl, nμ, hH, hl, hat⟩ := hv
        exact ⟨_, .ins c fs, c, f, a, dx, vs, r1, ⟨a, dx, vs, rfl, nμ, hH, hl, hat⟩, rfl, hm, hH, p1⟩
    | ptr q =>
      try simp only at p1
      obtain ⟨a, rfl, hq⟩ := hv
      cases hs : st'[q]? with
      | none => simp only [hs] at p1; exact p1.elim
      | some so =>
        cases so with
        | lst _ => simp only [hs] at p1; exact p1.elim
        | ins c fs =>
          simp only [hs] at p1
          cases hm : g.PR.meth c mt with
          | none => simp only [hm] at p1; exact p1.elim
          | some f =>
            simp only [hm] at p1
            obtain ⟨a', ha', dx, vs, hH, hl, hat⟩ := r1.objs q _ hs
            have ea : a' = a := Option.some.inj (ha'.symm.trans hq)
            subst ea
            exact ⟨_, .ptr q, c, f, a', dx, vs, r1, ⟨a', rfl, hq⟩, rfl, hm, hH, p1⟩
    | _ => exact False.elim p1
  · subst ex
    obtain rfl : u = Value.ref a := rx
    obtain ⟨hf, hc, hme, hno⟩ := Df.meth c mt f hm
    obtain ⟨rec, ps, Fn, hk, hb⟩ := Df.fn f hf
    have hlk : ((g.names c).zip fs).lookup (g.NM.met mt) = none := by
      cases q : ((g.names c).zip fs).lookup (g.NM.met mt) with
      | none => rfl
      | some v => exact absurd (zip_keys (List.mem_map.mpr ⟨_, PySem.mem_of_lookup q, rfl⟩)) hno
    refine getmeth_ok I1 hH (by rw [B.K]; rw [← B.K]; exact hc) hme hlk ?_
    refine PySem.W.callWith_K (first := [.ref a]) (h₀ := X.base) I.ok.mod.kin hme.kp (thn (ha.run pos pins s1 σ H1 (fun vs H2 => spF g C f (.ref a :: vs) H2 Q EW) I1 ⟨F1, r1, p1.bind.mono fun F2 H2 ds ⟨n2, r2, ⟨α2, st2, e2⟩, p2⟩ vs hv => ?_⟩) fun us s2 ⟨vs, H2, I2, r, q2⟩ => ⟨I2.kIn, ?_⟩) hst hpl
    · subst e2
      exact spF_of (ds := x :: ds) (vs := .ref a :: vs) r2 ⟨_, _, rfl, (Fr.mono (F := F1) (st' := st2) n2).at _ _ hx, hv⟩ p2
    · exact run_fnG (us := .ref a :: us) (vs := .ref a :: vs) Fn B.guards (hr.mono (Nat.le_succ _)) hb B.passes I2 (.cons rfl r) q2
end
end Mini
end
section
set_option Elab.async false
set_option linter.all false
set_option maxRecDepth 100000
set_option maxHeartbeats 2000000
/-! # Mini: own errors are raised -/
namespace Mini
open PySem L2 PySem.Spec PyProof.Rows
section
variable {g : G} {C : Calls} {EW : XK} {w : Nat} {X : Cx} {x : Str} {p pos pos2 : Pos} {e : Expr} {m : E}
theorem dropped {H : Hp} {a d : Addr} {v : V} {Cc : Addr} (ha : H a = none) (hd : upd H a (exo a Cc none) d = none) (hne : d ≠ a) :
    upd (del (upd (upd (upd H a (exo a Cc none)) d (exd d [("value", v)])) a (exo a Cc (some d))) a) d (.xd [("value", v)]) = upd H d (.xd [("value", v)]) := by
  funext b
  by_cases e : b = d
  · subst e; rw [upd_same, upd_same]
  · rw [upd_ne e, upd_ne e]
    by_cases e2 : b = a
    · subst e2; rw [del_same, ha]
    · rw [del_ne e2, upd_ne e2, upd_ne e, upd_ne e2]
theorem t_rai (B : Bd g C EW X) (hc : X.calm = true) {c : Nat} (hlt : c < g.NM.nE) (hg : Gl X x) (hm : X.mg x = some (.ref (g.AD.e c))) (hdb : (x == ("__debug__" : Str)) = false) (he : PE X e (tE g C EW m)) (hst : starEach [e] X.env = (false, eval e X.env) :: starEach [] X.env) (hpl : (backTo pos (starEach [] X.env)).any (·.1) = false) :
    PS X (.Raise (some (.Call (.Name x p) [e] [] pos)) none pos2) (tS g C EW w (.rai c m)) := by
  obtain ⟨fI, rec, ks, hty, Fn, hb, hini⟩ := B.exs.ini
  obtain ⟨hO, hv, _⟩ := B.exs.cls c hlt
  refine PS_imp (ps_raise hc B.takes (pmk_oex hO (hini c hlt) hty Fn B.room hb .nil (fun _ _ _ _ _ _ _ z => ?_) hg hm (pa_cons he pa_nil hst) hdb hst hpl)) fun Dn σ H ⟨F, r, q⟩ => ?_
  · obtain ⟨_, _, _, _, _, _, _, _, _, _, _, _, z⟩ := z
    exact z.elim
  · simp only [ex] at q
    refine ⟨F, r, (q.out r).mono fun F1 H1 d ⟨lt, r1, _, q1⟩ v hd => ⟨by simp, fun a ha => ⟨a, _, v, rfl, hO, hv, upd_same, fun dx hdx hne => ⟨rfl, dx, [("value", v)], upd_same, ?_, ?_, ?_⟩⟩⟩⟩
    · rw [upd_ne hne, upd_same]
    · rw [upd_ne hne] at hdx
      exact hdx
    · have hdx1 : H1 dx = none := by rw [upd_ne hne] at hdx; exact hdx
      rw [dropped ha hdx hne]
      exact q1 F1 σ _ v dx (Lt.of (F := F1) (α' := F1.α) (st' := F1.st) (Nx.new hdx1)) rfl (r1.new hdx1) (r1.atNew hdx1 hd) upd_same
end
end Mini
end
section
set_option Elab.async false
set_option linter.all false
set_option maxRecDepth 100000
set_option maxHeartbeats 2000000
/-! # Mini: several clauses 'except x as n' -/
namespace Mini
open PySem L2 PySem.Spec PyProof.Rows
abbrev Cls1 := Value × (Addr → Value → Option Addr → TS)
/-- behind a clause its name is gone -/
abbrev goneAt (i : Nat) (D : Ends) : Ends := { nx := fun σ' H' => D.nx (σ'.set i none) H', rt := D.rt, bk := fun σ' H' => D.bk (σ'.set i none) H', ct := fun σ' H' => D.ct (σ'.set i none) H' }
/-- what the clauses wish of an exception of the body -/
def wAll (K : PySem.W.Frag) (i : Nat) (Wout : WX) (D : Ends) : List Cls1 → WX
  | [] => Wout
  | (c, ts) :: r => fun cls d σ H => ∃ b, PySem.W.exmOne K cls c = some b ∧ (b = true → ∀ a, H a = none → ts a cls d (goneAt i D) (σ.set i (some (.ref a))) H) ∧ (b = false → wAll K i Wout D r cls d σ H)
inductive HdsAs (X : Cx) (n : Str) : List ExceptHandler → List Cls1 → Prop
  | nil : HdsAs X n [] []
  | cons {x : Str} {c : Value} {ts : Addr → Value → Option Addr → TS} {b₀ : Stmt} {suite : List Stmt} {np pos' : Pos} {hds : List ExceptHandler} {l : List Cls1} (hc : Names X x c)
      (hsu : ∀ (a : Addr) (oe : Obj) (cls : Value) (d : Option Addr) (pn : List (Addr × Obj)), Zc cls d oe → (∃ vs, oe.data = .fields vs) → PSs (X.suite a ((a, oe) :: pn)) (b₀ :: suite) (ts a cls d)) (r : HdsAs X n hds l) :
      HdsAs X n (.ExceptHandler (some (.Name x np)) (some n) (b₀ :: suite) pos' :: hds) ((c, ts) :: l)
section
variable {X : Cx} {n : Str} {i : Nat} {body : List Stmt} {h₀ : ExceptHandler} {hds : List ExceptHandler} {l : List Cls1} {pos : Pos} {tb : WX → TS} {Wout : WX}
theorem ps_all_as (hs : X.stack = X.env :: X.outer) (hf : X.env.frame = some X.env.locals) (hN : X.N.Nodup) (hi : X.N[i]? = some n) (hln : X.env.kindOf n = some .local) (tk : Takes X Wout)
    (hb : ∀ (W : WX) (pn : List (Addr × Obj)) (xe : Value → Shared → Prop), Takes (X.tr pn xe) W → PassesOwn (model X.prog X.w) X.A X.env xe → PSs (X.tr pn xe) body (tb W))
    (hh : HdsAs X n (h₀ :: hds) l) : PS X (.Try body (h₀ :: hds) [] [] pos) (fun D σ H => tb (wAll X.K i Wout D l) D σ H) := by
  constructor
  intro pins s σ H D I want
  have ok := I.ok
  have hloc : Loc X.env.scope n := .inl hln
  have frames : X.A.frames = some (X.env :: X.outer) := by rw [ok.frames, hs]
  -- what happens to an exception that is caught at a
  have caught : ∀ u s', XE (X.tr (X.pn ++ pins) fun e s₁ => wpAny (model X.prog X.w) X.A (noteFrame e X.env) (fun _ s₂ => wpAny (model X.prog X.w) X.A (setFlight e none) (fun _ s₃ => wpAny (model X.prog X.w) X.A (handleBy e X.env (h₀ :: hds)) (SP X pins D) X.xe s₃) X.xe s₂) X.xe s₁) (wAll X.K i Wout D l) u s' →
      wpAny (model X.prog X.w) X.A (noteFrame u X.env) (fun _ s₂ => wpAny (model X.prog X.w) X.A (setFlight u none) (fun _ s₃ => wpAny (model X.prog X.w) X.A (handleBy u X.env (h₀ :: hds)) (SP X pins D) X.xe s₃) X.xe s₂) X.xe s' := by
    rintro u s' ⟨a, B, sI, pins', σ1, H1, cls, d, rfl, Jt, ground, upS, sky, fresh, os, gens, wish⟩
    have J : Inv X pins σ1 H1 sI := Jt.ofTry ok
    have sky' : Sky B (X.env :: X.outer) a (Zc cls d) X.env.locals s'.heap := by rw [← hs]; exact sky
    refine Sky.land Zc.steady frames hf sky' fun hp fly upL => ?_
    have up3 := upS.trans upL
    have J3 : Inv X pins σ1 H1 { s' with heap := hp } := J.landed ground fly.1 up3 os gens
    obtain ⟨oe, vs, hoe, hz, hd⟩ := fly.there
    have noFrame : a ∉ frs (X.env :: X.outer) := fun hm => by
      obtain ⟨_, o', e', hnf⟩ := fly.2.2.1.mem hm
      rw [hoe] at e'; cases e'
      exact hnf _ hd
    have nL : a ≠ X.env.locals := fun z => noFrame (List.mem_filterMap.mpr ⟨X.env, List.mem_cons_self, by rw [hf, z]⟩)
    have nF : a ∉ X.fs := fun hm => let ⟨e, he, q⟩ := List.mem_filterMap.mp hm; noFrame (List.mem_filterMap.mpr ⟨e, List.mem_cons_of_mem _ he, q⟩)
    have S3 := J3.suite hoe hd fresh nL nF
    have walk : ∀ {hds' : List ExceptHandler} {l' : List Cls1}, HdsAs X n hds' l' → wAll X.K i Wout D l' cls d σ1 H1 → wpAny (model X.prog X.w) X.A (handleBy (.ref a) X.env hds') (SP X pins D) X.xe { s' with heap := hp } := by
      intro hds' l' hk
      induction hk with
      | nil =>
        intro wi
        refine wpAny_handleBy_nil ?_
        obtain ⟨k1, k2, k3, oe', vs', T, oT, ts', he', hz', hd', h1', hr'⟩ := id fly
        unfold PySem.passOn
        refine wpAny_bind (wpAny_field he' hd' h1' ?_)
        rw [if_neg (show ¬ ((Value.ref T == Value.none) = true) from by simp)]
        have out : wpAny (model X.prog X.w) X.A (setFlight (.ref a) X.env.frame) (fun _ s4 => wpAny (model X.prog X.w) X.A (throw (.ref a) : Sem Flow) (SP X pins D) X.xe s4) X.xe { s' with heap := hp } := by
          rw [hf]
          refine HandSPX.setFlight_upZ fly fun h4 hh4 up4 => wpAny_throw (tk _ _ ?_)
          exact ⟨a, B, sI, pins, σ1, H1, cls, d, rfl, J, ground, up3.trans up4, .inr (.inr (by rw [hs]; exact hh4)), fresh, os, gens, wi⟩
        first
          | exact wpAny_bind (wpAny_pure (wpAny_bind out))
          | exact wpAny_bind out
      | @cons x c ts b₀ suite np pos' hds2 l2 hc hsu r ih =>
        rintro ⟨b, hb1, yes, no⟩
        refine wpAny_handleBy_cons (codeAny_handlers_test ?_) (by intro q; cases q)
        have LT : PySem.W.Looks (model X.prog X.w) hp (typeOf (.ref a)) cls := fun A Q E s k q => wpAny_typeOf_ref (k _ _ hoe) (by rw [hz.1]; exact q)
        have LM := PySem.W.exm_one (M := model X.prog X.w) (J3.kIn) LT hb1
        have named : ∀ {Q : Value → Shared → Prop} {E : Value → Shared → Prop}, Q c { s' with heap := hp } → wpAny (model X.prog X.w) (X.A.mark (some (.ref a))) (eval (.Name x np) X.env) Q E { s' with heap := hp } := fun {Q E} q => by
          obtain ⟨hg, hdb, hm | ⟨hm, hv, hnn⟩⟩ := hc
          · exact ld_glob (X := X.suite a ((a, oe) :: (X.pn ++ pins))) S3 hg hm q hdb
          · exact ld_blt (X := X.suite a ((a, oe) :: (X.pn ++ pins))) S3 hg hm hv q hnn hdb
        refine named (LM.here ?_)
        cases b with
        | false =>
          show wpAny _ X.A (handleBy (.ref a) X.env hds2) _ _ _
          exact ih (no rfl)
        | true =>
          refine codeAny_handlers_suite_as ?_
          refine HandSPX.lands_againZ fly fun h4 fly4 up4 => ?_
          have J4 : Inv X pins σ1 H1 { s' with heap := h4 } := J.landed ground fly4.1 (up3.trans up4) os gens
          obtain ⟨oe4, vs4, hoe4, hz4, hd4⟩ := fly4.there
          have S4 := J4.suite hoe4 hd4 fresh nL nF
          refine store_ok (X := X.suite a ((a, oe4) :: (X.pn ++ pins))) (v := .ref a) S4 hN hi hloc rfl (fun s5 S5 => ?_) (.inr hln)
          refine wpAny_mono ((hsu a oe4 cls d (X.pn ++ pins) hz4 ⟨_, hd4⟩).run [] s5 _ H1 _ S5 (yes rfl a fresh)) (fun f s6 hsp => ?_) (fun _ _ z => False.elim z)
          have close : ∀ {σ6 : L2.St} {H6 : Hp} {Q : Shared → Prop}, Inv (X.suite a ((a, oe4) :: (X.pn ++ pins))) [] σ6 H6 s6 → (∀ s7, Inv X pins (σ6.set i none) H6 s7 → Q s7) →
              wpAny (model X.prog X.w) X.A (do bindName X.env n .none; unbindBehindTheSuite X.env n pos') (fun _ s7 => Q s7) X.xe s6 := fun {σ6 H6 Q} S6 hq => gone_ok (S6.unsuite ok) hN hi hln hq
          cases f with
          | next => obtain ⟨σ6, H6, S6, q6⟩ := hsp; exact close S6 fun s7 J7 => ⟨_, _, J7, q6⟩
          | brk => obtain ⟨σ6, H6, S6, q6⟩ := hsp; exact close S6 fun s7 J7 => ⟨_, _, J7, q6⟩
          | cont => obtain ⟨σ6, H6, S6, q6⟩ := hsp; exact close S6 fun s7 J7 => ⟨_, _, J7, q6⟩
          | ret u => obtain ⟨v6, σ6, H6, S6, r6, q6⟩ := hsp; exact close S6 fun s7 J7 => ⟨_, _, _, J7, r6, q6⟩
    exact walk hh wish
  refine wpAny_Try_except (wpAny_mono ((hb (wAll X.K i Wout D l) (X.pn ++ pins) _ caught PassesOwn.looking).run [] s σ H D (I.toTry _) want) (fun f s1 hsp => ?_) (fun e s1 he => he))
  cases f with
  | next => obtain ⟨σ', H', J', q⟩ := hsp; exact wpAny_execs_nil ⟨σ', H', J'.ofTry ok, q⟩
  | brk => obtain ⟨σ', H', J', q⟩ := hsp; exact ⟨σ', H', J'.ofTry ok, q⟩
  | cont => obtain ⟨σ', H', J', q⟩ := hsp; exact ⟨σ', H', J'.ofTry ok, q⟩
  | ret u => obtain ⟨v, σ', H', J', r, q⟩ := hsp; exact ⟨v, σ', H', J'.ofTry ok, r, q⟩
end
end Mini
end
section
set_option Elab.async false
set_option linter.all false
set_option maxRecDepth 100000
set_option maxHeartbeats 2000000
/-! # Mini: a lambda is handed to a def that calls it -/
namespace Mini
open PySem L2 PySem.Spec PyProof.Rows LamX
section
variable {X : Cx} {pins : List (Addr × Obj)} {σ : L2.St} {H : Hp} {s : Shared}
/-- a(), in the def that holds the lambda at f; the body's reading may ask what guards are up -/
theorem act_ok {CXg : CXT} {Eg : XK} {Ng : List Str} {qg : Str} {sg : Scope} {gd f c' : Addr} {cdg pm ctv : Value} {params : Arguments} {body : Expr} {scope : Scope} {k i : Nat} {a : Str} {pn : List (Addr × Obj)} {xe : Value → Shared → Prop} {W : WX} {E : XK} {tb : TE} {p1 p2 : Pos}
    (I : Inv X pins σ H s) (L : LamS X.env.scope scope) (hf : s.heap.get? f = some (PySem.W.kla_obj "<lambda>" (X.env.qual ++ "<lambda>") params body scope (cloFrom X.env.cells scope.names []) pm c' ctv)) (hfn : H f = none) (hfr : f ∉ frs X.stack)
    (hbind : bindArgs (PySem.W.kla_fn "<lambda>" (X.env.qual ++ "<lambda>") params body scope (cloFrom X.env.cells scope.names []) pm (.ref c') ctv) ⟨[], []⟩ = pure [])
    (tk : Takes ((cxOf CXg X.prog X.w X.K X.mg X.base Ng qg sg gd cdg X.A X.stack s H Eg).tr pn xe) W) (hW : ∀ cls d σ' H', E cls d H' → W cls d σ' H') (hr : Room (k + 1) (X.A.deeper (envOfC qg sg s.heap.objs.size gd cdg)))
    (hbody : ∀ (A : Around) (outer : List PySem.Env) (s : Shared) (H : Hp), A.guards = X.A.guards → Room k (A.deeper (lamEnv X scope s.heap.objs.size f c')) → PE (lamCx X A outer s H E scope f c') body tb)
    (hN : Ng[i]? = some a) (hv : Vis sg a) (hd : (a == ("__debug__" : Str)) = false) (hcd : (a == ("__classdict__" : Str)) = false) :
    PE ((cxOf CXg X.prog X.w X.K X.mg X.base Ng qg sg gd cdg X.A X.stack s H Eg).tr pn xe) (.Call (.Name a p1) [] [] p2)
      (fun σZ HZ Q => σZ[i]? = some (some (.ref f)) ∧ HZ c' = some (CodeO c' (X.env.qual ++ "<lambda>")) ∧ tb σ HZ Q) := by
  constructor
  rintro pinsZ sZ σZ HZ Q IZ ⟨slot, code, want⟩
  refine wpAny_Call_Name_kw (thn ((pe_var (pos := p1) (i := i) hN hv hd hcd).run pinsZ sZ σZ HZ (fun v H1 => v = .ref f ∧ H1 = HZ) IZ ⟨.ref f, slot, rfl, rfl⟩) ?_)
  rintro u s1 ⟨v, H1, I1, r1, rfl, rfl⟩
  obtain rfl : u = Value.ref f := r1
  have at1 : s1.heap.get? f = some (PySem.W.kla_obj "<lambda>" (X.env.qual ++ "<lambda>") params body scope (cloFrom X.env.cells scope.names []) pm c' ctv) := I1.base.keep f _ hf hfn hfr (fun z => nomatch (show f ∈ ([] : List Addr) from z))
  refine PySem.W.callWith_F0 ⟨_, _, _, _, at1⟩ ?_
  have un : Un (frs X.stack) [] H H1 s.heap s1.heap := I1.base
  obtain ⟨⟨oc, vs, t, hoc, hdc, hvc⟩, _, _⟩ := I1.hok c' _ code
  have runs : codeAny (model X.prog X.w) (X.A.deeper (envOfC qg sg s.heap.objs.size gd cdg)) (.call (.ref f) ⟨[], []⟩) (CR (L2.CX X.prog X.w) (envOfC qg sg s.heap.objs.size gd cdg :: X.stack) X.prog X.w H1 s1 Q E) s1 := by
    refine PySem.W.kla_callFunE hr.depth at1 rfl L.co L.gen rfl ⟨c', oc, vs, t, rfl, hoc, hdc, hvc⟩ ?_
    rw [hbind]
    refine wpAny_pure (wpAny_newFunctionEnv (fun y hy => (L.own y hy).2) (fun y hy => absurd hy (by simp)) (fun h₁ hns hsb => ⟨I1.nolimit.fresh _ hsb, ?_⟩) L.kind)
    have kp : ∀ b o, s1.heap.get? b = some o → h₁.get? b = some o := fun b o e => hsb.extBut b o (Nat.ne_of_lt (Heap.lt_size e)) (Heap.get?_push_of_some _ e)
    have J : Inv (lamCx X (X.A.deeper (envOfC qg sg s.heap.objs.size gd cdg)) (envOfC qg sg s.heap.objs.size gd cdg :: X.stack) s1 H1 E scope f c') [] σ H1 { s1 with heap := h₁, toks := s1.toks + ([] : List (Str × Value)).length } :=
      lam_start2 I L I1.env0 hr.hd un hns kp
    refine PySem.W.kla_codeExpr (wpAny_mono ((hbody (X.A.deeper (envOfC qg sg s.heap.objs.size gd cdg)) _ s1 H1 rfl (hr.deeper _)).run [] _ _ H1 Q J want) ?_ fun e s' hq => hq)
    rintro v s' ⟨w', H', J', rv, q⟩
    exact ⟨w', H', J'.os, J'.bare, J'.base, J'.hok, rv, q⟩
  have hx : Passes (L2.CX X.prog X.w) ((cxOf CXg X.prog X.w X.K X.mg X.base Ng qg sg gd cdg X.A X.stack s H Eg).tr pn xe) E := passes_call tk hW
  refine wpAny_call (codeAny_mono runs fun r s' hq => ?_)
  rcases r with e | fl
  · exact hx pinsZ σZ _ s1 e s' I1 hq
  · cases fl with
    | ret u => exact I1.after hq
    | next => exact False.elim hq
    | brk => exact False.elim hq
    | cont => exact False.elim hq
/-- x(lambda: body) -/
theorem lamcall_ok {T : List (Addr × Str)} {TT : (XK → Hp → VK → Prop) → Hp → VK → Prop} {x a : Str} {gd c P : Addr} {k : Nat} {pg : Arguments} {bg : List Stmt} {sg : Scope} {dV kV doc pm cdv ct oc : Value} {an od : Option Addr} {osl : Array (Option Value)} {Ng : List Str}
    {params : Arguments} {body : Expr} {scope : Scope} {t : XK → TE} {p lpos pos : Pos} (hg : Gl X x) (hm : X.mg x = some (.ref gd)) (hk : PySem.W.keepIn X.K (.ref gd) = true)
    (lk : X.K.lookup gd = some ⟨oc, od, .func (PySem.W.fnOf x x pg bg sg dV kV doc pm an cdv ct), osl⟩) (hcg : PySem.W.codeIn X.K cdv x = true) (hb : L2.Binds X.K (PySem.W.fnOf x x pg bg sg dV kV doc pm an cdv ct) [a] []) (Sg : FnScope Ng [a] sg) (hNg : Ng[0]? = some a) (hva : Vis sg a)
    (hG : GivesTo X Ng x sg gd cdv bg a (X.env.qual ++ "<lambda>") TT)
    (TB : TabB X.base X.mg c P) (hcode : X.env.code = .ref c) (hmT : (P, X.env.qual ++ "<lambda>") ∈ T) (hu : ∀ p ∈ T, p.1 = P → p.2 = X.env.qual ++ "<lambda>") (hr : Room (k + 2) X.A) (L : LamS X.env.scope scope) (hdef : defaultsOf params X.env = ([], []))
    (hbind : ∀ (q : Str) (cl : List (Str × Addr)) (pm cv ctv : Value), bindArgs (PySem.W.kla_fn "<lambda>" q params body scope cl pm cv ctv) ⟨[], []⟩ = pure [])
    (hbody : ∀ (A : Around) (outer : List PySem.Env) (s : Shared) (H : Hp) (E : XK) (f c' : Addr), A.guards = X.A.guards → Room k (A.deeper (lamEnv X scope s.heap.objs.size f c')) → PE (lamCx X A outer s H E scope f c') body (t E))
    (hdb : (x == ("__debug__" : Str)) = false) (hd : (a == ("__debug__" : Str)) = false) (hcd : (a == ("__classdict__" : Str)) = false) :
    PE X (.Call (.Name x p) [.Lambda params body scope lpos] [] pos) (tLam T TT t) := by
  constructor
  rintro pins s σ H Q I ⟨tabs, want⟩
  refine wpAny_Call_Name_kw (ld_glob I hg hm ?_ hdb)
  refine PySem.W.callWith_K (h₀ := X.base) I.ok.mod.kin hk ?_ (by rfl) (by rfl)
  refine Calls.spliced_cons (lam_make2 I TB hcode hmT hu tabs hdef (L.has I.ok) fun f c' pm' ctv H1 s' I1 eN T1 hf hfn hfr hco => Calls.spliced_nil ⟨I1.kIn, ?_⟩)
  have runs : codeAny (model X.prog X.w) X.A (.call (.ref gd) ⟨[.ref f], []⟩) (CR C8.CX0 X.stack X.prog X.w H1 s' Q C8.E0) s' :=
    run_ofS (N := Ng) (ps := [a]) (us := [.ref f]) (vs := [.ref f]) lk hcg Sg hr I1.env0 (hb s' [.ref f] I1.kIn rfl) (.cons rfl .nil) rfl fun hr' =>
      let ⟨t', ht', hq'⟩ := hG f c' s' H1 Q (fun E H' Q' => t E σ H' Q') (fun W pn xe E p1 p2 tk hW => act_ok (i := 0) I1 L hf hfn hfr (hbind _ _ _ _ _) tk hW hr' (fun A outer s H hA hr2 => hbody A outer s H E f c' hA hr2) hNg hva hd hcd) hco (want H1 eN T1)
      ⟨t', ht'.nox, hq'⟩
  refine wpAny_call (codeAny_mono runs fun r s2 hq => ?_)
  rcases r with e | fl
  · exact (show False from hq).elim
  · cases fl with
    | ret u => exact I1.after hq
    | next => exact False.elim hq
    | brk => exact False.elim hq
    | cont => exact False.elim hq
end
end Mini
end
section
set_option Elab.async false
set_option linter.all false
set_option maxRecDepth 100000
set_option maxHeartbeats 2000000
/-! # Mini: f(lambda: ..), where f tells what error came -/
namespace Mini
open PySem L2 PySem.Spec PyProof.Rows LamX
section
variable {g : G}
/-- the clauses' wish -/
def wT (g : G) (K : PySem.W.Frag) (Q : VK) : Clauses → XK
  | [] => fun _ _ _ => False
  | (c, w) :: r => fun cls dO H => ∃ b, PySem.W.exmOne K cls (.ref (g.AD.e c)) = some b ∧
      (b = true → cls = .ref (g.AD.e c) ∧ ∃ dx v, dO = some dx ∧ H dx = some (.xd [("value", v)]) ∧ ∀ p, H p = none → Q (.ref p) (upd H p (.tup [.str w, v]))) ∧ (b = false → wT g K Q r cls dO H)
def TTh (g : G) (K : PySem.W.Frag) (cl : Clauses) : (XK → Hp → VK → Prop) → Hp → VK → Prop := fun tl H Q =>
  tl (wT g K Q cl) H fun _ H1 => tTup (tCons (tC (.str "")) (tCons (tC .non) tNil)) [] H1 Q
def tsH (g : G) (w : Str) (c : Nat) : Addr → Value → Option Addr → TS := fun a cls d => tRet (tTup (tCons (tC (.str w)) (tCons (tXf a cls d (g.AD.e c) "value" (tVar 1)) tNil)))
/-! views of the text, a level at a time -/
def isName (n : Str) : Expr → Bool
  | .Name x _ => decide (x = n)
  | _ => false
theorem isName_ok {n : Str} {e : Expr} (h : isName n e = true) : ∃ p, e = .Name n p := by
  cases e with
  | Name x p => exact ⟨p, by rw [of_decide_eq_true h]⟩
  | _ => cases h
def isStr (w : Str) : Expr → Bool
  | .Constant k _ _ => match k with
    | .str x => decide (x = w)
    | _ => false
  | _ => false
theorem isStr_ok {w : Str} {e : Expr} (h : isStr w e = true) : ∃ j p, e = .Constant (.str w) j p := by
  cases e with
  | Constant k j p =>
    cases k with
    | str x => exact ⟨j, p, by rw [of_decide_eq_true h]⟩
    | _ => cases h
  | _ => cases h
def isNone : Expr → Bool
  | .Constant k _ _ => match k with
    | .none => true
    | _ => false
  | _ => false
theorem isNone_ok {e : Expr} (h : isNone e = true) : ∃ j p, e = .Constant .none j p := by
  cases e with
  | Constant k j p =>
    cases k with
    | none => exact ⟨j, p, rfl⟩
    | _ => cases h
  | _ => cases h
def isVal (n : Str) : Expr → Bool
  | .Attribute e f _ => isName n e && decide (f = "value")
  | _ => false
theorem isVal_ok {n : Str} {e : Expr} (h : isVal n e = true) : ∃ p q, e = .Attribute (.Name n p) "value" q := by
  cases e with
  | Attribute e f q =>
    simp only [isVal, Bool.and_eq_true, decide_eq_true_eq] at h
    obtain ⟨p, rfl⟩ := isName_ok h.1
    exact ⟨p, q, by rw [h.2]⟩
  | _ => cases h
def isPair (a b : Expr → Bool) : Expr → Bool
  | .Tuple l _ _ => match l with
    | [x, y] => a x && b y
    | _ => false
  | _ => false
theorem isPair_ok {a b : Expr → Bool} {e : Expr} (h : isPair a b e = true) : ∃ x y k p, e = .Tuple [x, y] k p ∧ a x = true ∧ b y = true := by
  cases e with
  | Tuple l k p =>
    match l, h with
    | [x, y], h => exact ⟨x, y, k, p, rfl, Bool.and_eq_true_iff.mp h⟩
  | _ => cases h
def isRet (a : Expr → Bool) : Stmt → Bool
  | .Return o _ => match o with
    | some e => a e
    | none => false
  | _ => false
theorem isRet_ok {a : Expr → Bool} {s : Stmt} (h : isRet a s = true) : ∃ e p, s = .Return (some e) p ∧ a e = true := by
  cases s with
  | Return o p =>
    cases o with
    | none => cases h
    | some e => exact ⟨e, p, rfl, h⟩
  | _ => cases h
def isHd (n : Str) (a : Expr → Bool) (b : Stmt → Bool) : ExceptHandler → Bool
  | .ExceptHandler t m l _ => match t, m, l with
    | some x, some n1, [s] => decide (n1 = n) && a x && b s
    | _, _, _ => false
theorem isHd_ok {n : Str} {a : Expr → Bool} {b : Stmt → Bool} {h : ExceptHandler} (hh : isHd n a b h = true) : ∃ x s p, h = .ExceptHandler (some x) (some n) [s] p ∧ a x = true ∧ b s = true := by
  cases h with
  | ExceptHandler t m l p =>
    match t, m, l, hh with
    | some x, some n1, [s], hh =>
      simp only [isHd, Bool.and_eq_true, decide_eq_true_eq] at hh
      exact ⟨x, s, p, by rw [hh.1.1], hh.1.2, hh.2⟩
/-- the clauses of the text -/
def okHds (g : G) (sg : Scope) (n : Str) : List ExceptHandler → Clauses → Bool
  | [], [] => true
  | h :: r, q :: cr => isHd n (isName (g.NM.exc q.1)) (isRet (isPair (isStr q.2) (isVal n))) h && decide (q.1 < g.NM.nE) && decide (sg.names.lookup (g.NM.exc q.1) = some .globalImplicit) && !(g.NM.exc q.1 == ("__debug__" : Str)) && okHds g sg n r cr
  | _, _ => false
theorem hds_ok {X : Cx} {sg : Scope} {n : Str} (hsc : X.env.scope = sg) (hN : X.N[1]? = some n) (hv : Vis sg n) (hd : (n == ("__debug__" : Str)) = false) (hcd : (n == ("__classdict__" : Str)) = false) (ex : ExG g X.prog X.w X.K X.mg X.base) : ∀ (hds : List ExceptHandler) (cl : Clauses), okHds g sg n hds cl = true →
    HdsAs X n hds (cl.map fun q => (.ref (g.AD.e q.1), tsH g q.2 q.1)) := by
  intro hds
  induction hds with
  | nil =>
    intro cl h
    cases cl with
    | nil => exact .nil
    | cons q cr => cases h
  | cons hd0 r ih =>
    intro cl h
    cases cl with
    | nil => cases h
    | cons q cr =>
      simp only [okHds, Bool.and_eq_true, decide_eq_true_eq, Bool.not_eq_true'] at h
      obtain ⟨⟨⟨⟨h1, hc⟩, hg⟩, hx⟩, hr⟩ := h
      obtain ⟨x, s, p, rfl, h2, h3⟩ := isHd_ok h1
      obtain ⟨p2, rfl⟩ := isName_ok h2
      obtain ⟨e, p3, rfl, h4⟩ := isRet_ok h3
      obtain ⟨x, y, k, p4, rfl, h5, h6⟩ := isPair_ok h4
      obtain ⟨j, p5, rfl⟩ := isStr_ok h5
      obtain ⟨p6, p7, rfl⟩ := isVal_ok h6
      refine .cons ⟨by show X.env.scope.names.lookup _ = _; rw [hsc]; exact hg, hx, .inl (ex.nam _ hc)⟩ (fun a oe cls d pn hz hf => ?_) (ih cr hr)
      exact pss_one (ps_ret (pe_tup (pa_cons pe_str (pa_cons (pe_xf (ex.cls _ hc).2.2 (ex.cls _ hc).2.1 hz hf (pe_var (i := 1) hN (by show Vis X.env.scope _; rw [hsc]; exact hv) hd hcd)) pa_nil))))
/-- the def's text: it calls what it got -/
def isAct (a : Str) : Stmt → Bool
  | .Expr e _ => match e with
    | .Call f l k _ => match l, k with
      | [], [] => isName a f
      | _, _ => false
    | _ => false
  | _ => false
theorem isAct_ok {a : Str} {s : Stmt} (h : isAct a s = true) : ∃ p1 p2 p3, s = .Expr (.Call (.Name a p1) [] [] p2) p3 := by
  cases s with
  | Expr e p3 =>
    cases e with
    | Call f l k p2 =>
      match l, k, h with
      | [], [], h =>
        obtain ⟨p1, rfl⟩ := isName_ok h
        exact ⟨p1, p2, p3, rfl⟩
    | _ => cases h
  | _ => cases h
def okTry (g : G) (sg : Scope) (a n : Str) (cl : Clauses) : Stmt → Bool
  | .Try b h o f _ => match b, h, o, f with
    | [s], hd :: hds, [], [] => isAct a s && okHds g sg n (hd :: hds) cl
    | _, _, _, _ => false
  | _ => false
theorem okTry_ok {sg : Scope} {a n : Str} {cl : Clauses} {s : Stmt} (h : okTry g sg a n cl s = true) : ∃ p1 p2 p3 hd hds p, s = .Try [.Expr (.Call (.Name a p1) [] [] p2) p3] (hd :: hds) [] [] p ∧ okHds g sg n (hd :: hds) cl = true := by
  cases s with
  | Try b hh o f p =>
    match b, hh, o, f, h with
    | [s], hd :: hds, [], [], h =>
      obtain ⟨h1, h2⟩ := Bool.and_eq_true_iff.mp h
      obtain ⟨p1, p2, p3, rfl⟩ := isAct_ok h1
      exact ⟨p1, p2, p3, hd, hds, p, rfl, h2⟩
  | _ => cases h
def okHand (g : G) (sg : Scope) (a n : Str) (cl : Clauses) : List Stmt → Bool
  | [s, t] => okTry g sg a n cl s && isRet (isPair (isStr "") isNone) t
  | _ => false
theorem okHand_ok {sg : Scope} {a n : Str} {cl : Clauses} {b : List Stmt} (h : okHand g sg a n cl b = true) : ∃ p1 p2 p3 hd hds p j1 p5 j2 p6 k p7 p8, b = [.Try [.Expr (.Call (.Name a p1) [] [] p2) p3] (hd :: hds) [] [] p, .Return (some (.Tuple [.Constant (.str "") j1 p5, .Constant .none j2 p6] k p7)) p8] ∧ okHds g sg n (hd :: hds) cl = true := by
  match b, h with
  | [s, t], h =>
    obtain ⟨h1, h2⟩ := Bool.and_eq_true_iff.mp h
    obtain ⟨p1, p2, p3, hd, hds, p, rfl, h3⟩ := okTry_ok h1
    obtain ⟨e, p8, rfl, h4⟩ := isRet_ok h2
    obtain ⟨x, y, k, p7, rfl, h5, h6⟩ := isPair_ok h4
    obtain ⟨j1, p5, rfl⟩ := isStr_ok h5
    obtain ⟨j2, p6, rfl⟩ := isNone_ok h6
    exact ⟨p1, p2, p3, hd, hds, p, j1, p5, j2, p6, k, p7, p8, rfl, h3⟩
theorem wT_of {K : PySem.W.Frag} {Q : VK} {D : Ends} (hQ : D.rt = Q) : ∀ (cl : Clauses) (cls : Value) (d : Option Addr) (σ : L2.St) (H : Hp), 1 < σ.length → wT g K Q cl cls d H → wAll K 1 (fun _ _ _ _ => False) D (cl.map fun q => (.ref (g.AD.e q.1), tsH g q.2 q.1)) cls d σ H
  | [], _, _, _, _, _, h => h
  | (c, w) :: r, cls, d, σ, H, hl, ⟨b, e, h1, h2⟩ => by
    refine ⟨b, e, fun hb a ha => ?_, fun hb => wT_of hQ r cls d σ H hl (h2 hb)⟩
    obtain ⟨ec, dx, v, rfl, hH, q⟩ := h1 hb
    refine ⟨.ref a, by rw [List.getElem?_set_self hl], rfl, ec, dx, _, v, rfl, hH, by simp, by rw [sizeLine_eq]; simp, fun p hp => ?_⟩
    show (goneAt 1 D).rt (.ref p) _
    show D.rt _ _
    rw [hQ]
    exact q p hp
theorem takes_len {X : Cx} {W : WX} {n : Nat} (tk : Takes X W) (h : n < X.N.length) : Takes X (fun cls d σ H => n < σ.length → W cls d σ H) := fun u s' x => by
  obtain ⟨a, B, sI, pins, σ, H, cls, d, e, I, nb, up, sky, na, os, ag, w⟩ := x
  exact tk u s' ⟨a, B, sI, pins, σ, H, cls, d, e, I, nb, up, sky, na, os, ag, w (by rw [I.len]; exact h)⟩
theorem hand_gives {X : Cx} {Ng : List Str} {x a n q : Str} {sg : Scope} {gd : Addr} {cdg : Value} {cl : Clauses} {body : List Stmt} (hN : Ng = [a, n]) (hnd : Ng.Nodup) (hb : okHand g sg a n cl body = true) (hv : sg.names.lookup n = some .local) (hk : sg.kind = .function) (hd : (n == ("__debug__" : Str)) = false) (hcd : (n == ("__classdict__" : Str)) = false)
    (ex : ExG g X.prog X.w X.K X.mg X.base) : GivesTo X Ng x sg gd cdg body a q (TTh g X.K cl) := by
  subst hN
  intro f c' s H Q tl act hc h
  obtain ⟨p1, p2, p3, h₀, hds, p4, j1, p5, j2, p6, kk, p7, p8, rfl, hh⟩ := okHand_ok hb
  have HD := hds_ok (X := (cxOf C8.CX0 X.prog X.w X.K X.mg X.base [a, n] x sg gd cdg X.A X.stack s H C8.E0).nox) (sg := sg) (n := n) rfl rfl (.inl hv) hd hcd ex (h₀ :: hds) cl hh
  refine ⟨_, pss_cons (ps_all_as (X := (cxOf C8.CX0 X.prog X.w X.K X.mg X.base [a, n] x sg gd cdg X.A X.stack s H C8.E0).nox) (i := 1) (n := n)
      (tb := fun W D σ H => ∃ Ech : XK, (∀ cls d σ' H', Ech cls d H' → 1 < σ'.length → W cls d σ' H') ∧ σ[0]? = some (some (.ref f)) ∧ H c' = some (CodeO c' q) ∧ tl Ech H fun _ H1 => D.nx σ H1)
      rfl rfl hnd rfl hv takes0 (fun W pn xe tk _ => ?_) HD) (pss_one (ps_ret (pe_tup (pa_cons pe_str (pa_cons pe_non pa_nil))))), ?_⟩
  · refine ⟨fun pins s' σ H' D I ⟨Ech, hW, h1, h2, h3⟩ => ?_⟩
    have hp := act (fun cls d σ H => 1 < σ.length → W cls d σ H) pn xe Ech p1 p2 (takes_len tk (by show 1 < 2; decide)) (fun cls d σ' H' he hl => hW cls d σ' H' he hl)
    have hq := pss_one (ps_expr (pos := p3) hp)
    exact hq.run pins s' σ H' D I ⟨h1, h2, h3⟩
  · exact ⟨wT g X.K Q cl, fun cls d σ' H' hw hl => wT_of rfl cl cls d σ' H' hl hw, rfl, hc, h⟩
end
end Mini
end
section
set_option Elab.async false
set_option linter.all false
set_option maxRecDepth 100000
set_option maxHeartbeats 2000000
/-! # Mini: f(lambda: ..), the rule -/
namespace Mini
open PySem L2 PySem.Spec PyProof.Rows LamX
theorem lk_mem {β : Type} {c : Nat} {w : β} : ∀ {l : List (Nat × β)}, l.lookup c = some w → (c, w) ∈ l := by
  intro l
  induction l with
  | nil => intro h; cases h
  | cons q r ih =>
    intro h
    rw [List.lookup_cons] at h
    by_cases e : c = q.1
    · subst e
      have : q.2 = w := by simpa using h
      subst this
      exact List.mem_cons_self
    · have e2 : (c == q.1) = false := beq_eq_false_iff_ne.mpr e
      rw [e2] at h
      exact List.mem_cons_of_mem _ (ih h)
/-- the def f calls the lambda that it gets and tells its error -/
structure HandG (g : G) (K : PySem.W.Frag) (mg : Str → Option Value) (f : Nat) (cl : Clauses) : Prop where
  ex : ∃ (pg : Arguments) (bg : List Stmt) (sg : Scope) (dV kV doc pm cdv ct oc : Value) (an od : Option Addr) (osl : Array (Option Value)) (a n : Str),
    K.lookup (g.AD.f f) = some ⟨oc, od, .func (PySem.W.fnOf (g.NM.fn f) (g.NM.fn f) pg bg sg dV kV doc pm an cdv ct), osl⟩ ∧ PySem.W.codeIn K cdv (g.NM.fn f) = true ∧ L2.Binds K (PySem.W.fnOf (g.NM.fn f) (g.NM.fn f) pg bg sg dV kV doc pm an cdv ct) [a] [] ∧
      FnScope [a, n] [a] sg ∧ Vis sg a ∧ sg.names.lookup n = some .local ∧ okHand g sg a n cl bg = true ∧ (n == ("__debug__" : Str)) = false ∧ (n == ("__classdict__" : Str)) = false ∧ (a == ("__debug__" : Str)) = false ∧ (a == ("__classdict__" : Str)) = false
  keep : PySem.W.keepIn K (.ref (g.AD.f f)) = true
  nam : mg (g.NM.fn f) = some (.ref (g.AD.f f))
  lt : ∀ q ∈ cl, q.1 < g.NM.nE
/-- lambdas may be made in X -/
structure LamOk (g : G) (C : Calls) (X : Cx) : Prop where
  defs : ∃ k, Room (k + 4) X.A ∧ DefsG g X.prog X.w X.K X.mg X.base k C
  code : ∃ c P, X.env.code = .ref c ∧ TabB X.base X.mg c P ∧ (P, X.env.qual ++ "<lambda>") ∈ g.T ∧ ∀ p ∈ g.T, p.1 = P → p.2 = X.env.qual ++ "<lambda>"
  hand : ∀ f cl, g.PR.hand f = some cl → HandG g X.K X.mg f cl
section
variable {g : G} {C : Calls} {EW : XK} {X : Cx} {m : E} {p lpos pos : Pos} {body : Expr} {params : Arguments} {scope : Scope} {x : Str}
theorem wT_in {K : PySem.W.Frag} {Q : VK} {c : Nat} {w : Str} {dx : Addr} {v : V} {H : Hp} (exm : ∀ c', c' < g.NM.nE → PySem.W.exmOne K (.ref (g.AD.e c)) (.ref (g.AD.e c')) = some (c == c')) (hd : H dx = some (.xd [("value", v)])) (hQ : ∀ p, H p = none → Q (.ref p) (upd H p (.tup [.str w, v]))) :
    ∀ cl : Clauses, (∀ q ∈ cl, q.1 < g.NM.nE) → cl.lookup c = some w → wT g K Q cl (.ref (g.AD.e c)) (some dx) H := by
  intro cl
  induction cl with
  | nil => intro _ h; cases h
  | cons q r ih =>
    intro hl h
    rw [List.lookup_cons] at h
    refine ⟨c == q.1, exm q.1 (hl q List.mem_cons_self), fun hb => ?_, fun hb => ?_⟩
    · rw [hb] at h
      have e : c = q.1 := by simpa using hb
      have e2 : q.2 = w := by simpa using h
      rw [← e]
      refine ⟨rfl, dx, v, rfl, hd, fun p hp => ?_⟩
      rw [e2]
      exact hQ p hp
    · rw [hb] at h
      exact ih (fun q hq => hl q (List.mem_cons_of_mem _ hq)) h
theorem s_refused (B : Bd g C EW X) (L : LamOk g C X) {f : Nat} (hg : Gl X (g.NM.fn f)) (hdb : (g.NM.fn f == ("__debug__" : Str)) = false) (hL : LamS X.env.scope scope) (hdef : defaultsOf params X.env = ([], []))
    (hbind : ∀ (q : Str) (cl : List (Str × Addr)) (pm cv ctv : Value), bindArgs (PySem.W.kla_fn "<lambda>" q params body scope cl pm cv ctv) ⟨[], []⟩ = pure []) (hh : (g.PR.hand f).isSome = true)
    (hbody : ∀ (A : Around) (outer : List PySem.Env) (s : Shared) (H : Hp) (E : XK) (fa c' : Addr), Bd g C E (lamCx X A outer s H E scope fa c') → PE (lamCx X A outer s H E scope fa c') body (tE g C E m)) :
    PE X (.Call (.Name (g.NM.fn f) p) [.Lambda params body scope lpos] [] pos) (tE g C EW (.refused f m)) := by
  obtain ⟨cl, hcl⟩ := Option.isSome_iff_exists.mp hh
  have HG := L.hand f cl hcl
  obtain ⟨pg, bg, sg, dV, kV, doc, pm, cdv, ct, oc, an, od, osl, a, n, lk, hcd, hb, Sg, hva, hnl, hok, d1, d2, d3, d4⟩ := HG.ex
  obtain ⟨k, hr, Df⟩ := L.defs
  obtain ⟨c, P, hcode, TB, hmT, hu⟩ := L.code
  refine PE_imp (lamcall_ok (T := g.T) (k := k + 2) (t := fun E => tE g C E m) hg HG.nam HG.keep lk hcd hb Sg rfl hva (hand_gives rfl Sg.nd hok hnl Sg.kind d1 d2 B.exs) TB hcode hmT hu hr hL hdef hbind (fun A outer s H E fa c' hA hr2 => hbody A outer s H E fa c' ?_) hdb d3 d4) fun σ H Q ⟨F, r, q⟩ => ?_
  · exact ⟨B.K, B.txt, hA.trans B.guards, B.nodup, takes_of rfl rfl rfl rfl, ⟨k, hr2.mono (by omega), Df⟩, hr2.mono (by omega), B.exs⟩
  · refine ⟨r.tabs, fun H1 eN T1 => ?_⟩
    have n1 : Nx [] H [] H1 := ⟨fun a o h _ t => eN a o h t, fun a ⟨o, h, t⟩ => ⟨o, eN a o h t, t⟩, [], rfl, by simp⟩
    have r1 := r.later n1 T1
    have nw : Nx F.α H F.α H1 := n1.widen
    simp only [ev, hcl] at q
    show tE g C (wT g X.K Q cl) m σ H1 _
    refine ⟨F, r1, ?_⟩
    cases he : ev g.PR C m F.ρ F.st with
    | bad => rw [he] at q; exact q.elim
    | ok d st =>
      rw [he] at q
      intro H2 α2 n2 r2 v hv
      refine ⟨by simp [sizeLine_eq], fun p hp => ?_⟩
      exact q _ α2 ((nw.trans n2).trans (Nx.new hp)) (r2.new hp) (.ref p) (r2.newTup hp (Ats.two rfl rfl))
    | exc c d st =>
      rw [he] at q
      simp only [toldBy] at q
      intro H2 α2 v dx n2 r2 hv hdx
      cases hl : cl.lookup c with
      | none => simp only [hl] at q; exact q.elim
      | some w =>
        simp only [hl] at q
        have hc : c < g.NM.nE := HG.lt (c, w) (lk_mem hl)
        exact wT_in (fun c' hc' => B.exs.exm c c' hc hc') hdx (fun p hp => q _ α2 ((nw.trans n2).trans (Nx.new hp)) (r2.new hp) (.ref p) (r2.newTup hp (Ats.two rfl hv))) cl HG.lt hl
end
end Mini
end
section
set_option Elab.async false
set_option linter.all false
set_option maxRecDepth 100000
set_option maxHeartbeats 2000000
/-! # Mini: isinstance -/
namespace Mini
open PySem L2 PySem.Spec PyProof.Rows
inductive Kd where | non | bl | int | str | lst | tup | dic | ins (c : Nat)
  deriving DecidableEq, Repr
def kdOf : D → Option Kd
  | .non => some .non
  | .bl _ => some .bl
  | .int _ => some .int
  | .str _ => some .str
  | .lst _ => some .lst
  | .tup _ => some .tup
  | .dic _ _ => some .dic
  | .ins c _ => some (.ins c)
  | _ => none
def tyK : Kd → Ty → Bool
  | .bl, .int => true
  | .bl, .bool => true
  | .int, .int => true
  | .str, .str => true
  | .lst, .list => true
  | .tup, .tuple => true
  | .dic, .dict => true
  | .ins c, .cls c' => c == c'
  | _, _ => false
theorem tyD_kd {d : D} {t : Ty} {b : Bool} (h : tyD d t = some b) : ∃ k, kdOf d = some k ∧ b = tyK k t := by
  cases d <;> cases t <;> simp only [tyD, Option.some.injEq] at h <;> first
    | exact ⟨_, rfl, h.symm⟩
    | cases h
theorem isiD_kd {d : D} {ts : List Ty} {b : Bool} (h : isiD d ts = some b) (hn : ts ≠ []) : ∃ k, kdOf d = some k ∧ b = ts.any (tyK k) := by
  induction ts generalizing b with
  | nil => exact absurd rfl hn
  | cons t r ih =>
    simp only [isiD] at h
    obtain ⟨b1, h1, h2⟩ := Option.bind_eq_some_iff.mp h
    obtain ⟨k, hk, rfl⟩ := tyD_kd h1
    refine ⟨k, hk, ?_⟩
    cases hb : tyK k t with
    | true =>
      rw [hb] at h2
      simp at h2
      rw [h2]
      simp [hb]
    | false =>
      rw [hb] at h2
      simp only [Bool.false_eq_true, if_false] at h2
      cases r with
      | nil =>
        simp only [isiD, Option.some.injEq] at h2
        rw [← h2]
        simp [hb]
      | cons t2 r2 =>
        obtain ⟨k2, hk2, e⟩ := ih h2 (by simp)
        rw [hk] at hk2
        cases hk2
        rw [e, List.any_cons (a := t), hb, Bool.false_or]
section
variable (g : G)
def kdV : Kd → Value
  | .non => .type "NoneType"
  | .bl => .type "bool"
  | .int => .type "int"
  | .str => .type "str"
  | .lst => .type "list"
  | .tup => .type "tuple"
  | .dic => .type "dict"
  | .ins c => .ref (g.AD.c c)
def tyV : Ty → Value
  | .int => .type "int"
  | .bool => .type "bool"
  | .str => .type "str"
  | .list => .type "list"
  | .tuple => .type "tuple"
  | .dict => .type "dict"
  | .cls c => .ref (g.AD.c c)
def tyVV : Ty → V
  | .int => .ty "int"
  | .bool => .ty "bool"
  | .str => .ty "str"
  | .list => .ty "list"
  | .tuple => .ty "tuple"
  | .dict => .ty "dict"
  | .cls c => .ref (g.AD.c c)
def tyName : Ty → Str
  | .int => "int"
  | .bool => "bool"
  | .str => "str"
  | .list => "list"
  | .tuple => "tuple"
  | .dict => "dict"
  | .cls c => g.NM.cls c
def isCls (c : Nat) : Prop := g.PR.flds c ≠ []
/-- what isinstance tells of the text's classes -/
structure TyG (K : PySem.W.Frag) (mg : Str → Option Value) : Prop where
  own : ∀ c, isCls g c → PySem.W.findIn K (.ref (g.AD.c c)) "__class__" = some (some (.builtin "object.__class__")) ∧ PySem.W.mroIn K (g.AD.c c) (.type "object") = some true
  ob : PySem.W.specialIn K (.builtin "object.__class__") "__get__" = some (some (.builtin "getset_descriptor.__get__")) ∧ PySem.W.takesIn K (.builtin "object.__class__") = some true
  kit : ∀ (k : Kd) (t : Ty), (∀ c, k = .ins c → isCls g c) → (∀ c, t = .cls c → isCls g c) → PySem.W.kitOne K (kdV g k) (tyV g t) = some (tyK k t)
  nam : ∀ c, isCls g c → mg (g.NM.cls c) = some (.ref (g.AD.c c))
end
section
variable {g : G} {C : Calls} {EW : XK} {X : Cx} {p p2 pos : Pos} {a : Expr} {m : E}
theorem tyx_at {F : Fr} {σ : L2.St} {H : Hp} {mg : Str → Option Value} {d : D} {v : V} {k : Kd} (T : Txt g mg) (Y : TyG g g.K mg) (r : Rep g F σ H) (h : AtB g F H d v) (hk : kdOf (shw F.st d) = some k) : TyX g.K H v (kdV g k) ∧ ∀ c, k = .ins c → isCls g c := by
  cases d with
  | non => cases hk; rw [h.non]; exact ⟨.base .non, fun _ => nofun⟩
  | bl b => cases hk; rw [h.bl]; exact ⟨.base (.bl b), fun _ => nofun⟩
  | int b => cases hk; rw [h.int]; exact ⟨.base (.int b), fun _ => nofun⟩
  | str b => cases hk; rw [h.str]; exact ⟨.base (.str b), fun _ => nofun⟩
  | lst l => cases hk; obtain ⟨a, vs, rfl, hH, _⟩ := h.lst; exact ⟨.base (.lst hH), fun _ => nofun⟩
  | tup l => cases hk; obtain ⟨a, vs, rfl, hH, _⟩ := h.tup; exact ⟨.base (.tup hH), fun _ => nofun⟩
  | scr _ => cases hk
  | fn _ => cases hk
  | dic ks us =>
    cases hk
    rcases h with ⟨a, kvs, rfl, _, hH, _⟩ | ⟨a, rfl, _, ⟨_, _, e, _⟩ | ⟨_, _, kvs, _, hH, _⟩⟩
    · exact ⟨.base (.dK hH), fun _ => nofun⟩
    · cases e
    · exact ⟨.base (.dK hH), fun _ => nofun⟩
  | ins c fs =>
    obtain ⟨a, dx, vs, rfl, _, hH, hl, _⟩ := h.at (fun _ => nofun) (fun _ _ => nofun)
    simp only [shw] at hk
    split at hk
    · cases hk
    · rename_i hne
      cases hk
      have hc : isCls g c := fun e => by rw [e] at hl; exact hne (by simpa using hl)
      exact ⟨.base (.ins hH (T.cls c hc) (Y.own c hc).1 Y.ob.1 Y.ob.2 (Y.own c hc).2), fun _ e => by cases e; exact hc⟩
  | ptr q =>
    obtain ⟨a, rfl, hq⟩ := h.at (fun _ => nofun) (fun _ _ => nofun)
    cases hs : F.st[q]? with
    | none => simp only [shw, hs] at hk; cases hk
    | some o =>
      obtain ⟨a', ha', z⟩ := r.objs q o hs
      have e : a' = a := Option.some.inj (ha'.symm.trans hq)
      subst e
      simp only [shw, hs] at hk
      cases o with
      | lst l =>
        cases hk
        obtain ⟨vs, hH, _⟩ := z
        exact ⟨.base (.lst hH), fun _ => nofun⟩
      | ins c fs =>
        simp only at hk
        split at hk
        · cases hk
        · rename_i hne
          cases hk
          obtain ⟨dx, vs, hH, hl, _⟩ := z
          have hc : isCls g c := fun e => by rw [e] at hl; exact hne (by simpa using hl)
          exact ⟨.base (.ins hH (T.cls c hc) (Y.own c hc).1 Y.ob.1 Y.ob.2 (Y.own c hc).2), fun _ e => by cases e; exact hc⟩
/-- the class's name, as an argument -/
def okTy (g : G) (sg : Scope) (t : Ty) : Expr → Bool
  | .Name x _ => decide (x = tyName g t) && decide (sg.names.lookup x = some .globalImplicit) && !(x == ("__debug__" : Str)) && !(x == ("__name__" : Str)) && (match t with | .cls c => !(g.PR.flds c).isEmpty | _ => true)
  | _ => false
theorem ty_pe (B : Bd g C EW X) (Y : TyG g g.K X.mg) {t : Ty} {e : Expr} (h : okTy g X.env.scope t e = true) : PE X e (tC (tyVV g t)) ∧ ClsV (tyVV g t) (tyV g t) ∧ (∀ c, t = .cls c → isCls g c) := by
  cases e with
  | Name x p =>
    simp only [okTy, Bool.and_eq_true, decide_eq_true_eq, Bool.not_eq_true'] at h
    obtain ⟨⟨⟨⟨rfl, hg⟩, hd⟩, hn⟩, hc⟩ := h
    have hn' : tyName g t ≠ ("__name__" : Str) := fun e => by rw [e] at hn; simp at hn
    cases t with
    | cls c =>
      have hc : isCls g c := fun e => by simp [e] at hc
      exact ⟨pe_glob (v := .ref (g.AD.c c)) hg (Y.nam c hc) rfl hd, .own _, fun _ e => by cases e; exact hc⟩
    | int => exact ⟨pe_bltn hg (B.txt.blt _ (by simp [tyName])) (show bootBuiltins ("int" : Str) = _ by decide +kernel) rfl hn' hd, .ty _, fun _ => nofun⟩
    | bool => exact ⟨pe_bltn hg (B.txt.blt _ (by simp [tyName])) (show bootBuiltins ("bool" : Str) = _ by decide +kernel) rfl hn' hd, .ty _, fun _ => nofun⟩
    | str => exact ⟨pe_bltn hg (B.txt.blt _ (by simp [tyName])) (show bootBuiltins ("str" : Str) = _ by decide +kernel) rfl hn' hd, .ty _, fun _ => nofun⟩
    | list => exact ⟨pe_bltn hg (B.txt.blt _ (by simp [tyName])) (show bootBuiltins ("list" : Str) = _ by decide +kernel) rfl hn' hd, .ty _, fun _ => nofun⟩
    | tuple => exact ⟨pe_bltn hg (B.txt.blt _ (by simp [tyName])) (show bootBuiltins ("tuple" : Str) = _ by decide +kernel) rfl hn' hd, .ty _, fun _ => nofun⟩
    | dict => exact ⟨pe_bltn hg (B.txt.blt _ (by simp [tyName])) (show bootBuiltins ("dict" : Str) = _ by decide +kernel) rfl hn' hd, .ty _, fun _ => nofun⟩
  | _ => cases h
theorem kit_any {K : PySem.W.Frag} {mg : Str → Option Value} (Y : TyG g K mg) {k : Kd} (hk : ∀ c, k = .ins c → isCls g c) : ∀ ts : List Ty, (∀ t ∈ ts, ∀ c, t = .cls c → isCls g c) → PySem.W.kitAny K (kdV g k) (ts.map (tyV g)) = some (ts.any (tyK k))
  | [], _ => rfl
  | t :: r, h => by
    have e1 := Y.kit k t hk (h t List.mem_cons_self)
    have e2 := kit_any Y hk r fun t' ht => h t' (List.mem_cons_of_mem _ ht)
    simp only [List.map_cons, PySem.W.kitAny, e1, List.any_cons]
    cases tyK k t with
    | true => rfl
    | false => simp only [e2, Bool.false_or]
theorem s_isi1 (B : Bd g C EW X) (Y : TyG g g.K X.mg) {t : Ty} {te : Expr} (ht : okTy g X.env.scope t te = true) (hg : Gl X "isinstance") (ha : PE X a (tB g C EW m)) (he : starEach [a, te] X.env = (false, eval a X.env) :: starEach [te] X.env) (he2 : starEach [te] X.env = (false, eval te X.env) :: starEach [] X.env) (hpl : (backTo pos (starEach [te] X.env)).any (·.1) = false) :
    PE X (.Call (.Name "isinstance" p) [a, te] [] pos) (tE g C EW (.isi m [t])) := by
  obtain ⟨hp, hc, hi⟩ := ty_pe B Y ht
  refine PE_imp (pe_callB (id := "isinstance") call_isi hg (B.txt.blt _ (by simp)) (show bootBuiltins ("isinstance" : Str) = _ by decide +kernel) (pa_cons ha (pa_cons hp pa_nil he2) he) (by decide) (by decide) he hpl) fun σ H Q ⟨F, r, q⟩ => ?_
  simp only [ev] at q
  refine ⟨F, r, q.bind.mono fun F1 H1 d ⟨n1, r1, _, q1⟩ v hv => ?_⟩
  obtain ⟨z, hz, q2⟩ := q1.opt
  obtain ⟨b, hb, rfl⟩ := Option.map_eq_some_iff.mp hz
  obtain ⟨k, hk, rfl⟩ := isiD_kd hb (by simp)
  obtain ⟨ty, hi2⟩ := tyx_at B.txt Y r1 hv hk
  have e := kit_any Y hi2 [t] fun t' ht' c e => hi c (by rw [← List.mem_singleton.mp ht']; exact e)
  refine ⟨v, tyVV g t, kdV g k, tyV g t, tyK k t, rfl, hc, by rw [B.K]; exact ty, by rw [B.K]; exact Y.kit k t hi2 hi, ?_⟩
  have := use_bl r1 q2
  simpa using this
def okTys (g : G) (sg : Scope) : List Ty → List Expr → Bool
  | [], [] => true
  | t :: ts, e :: es => okTy g sg t e && okTys g sg ts es
  | _, _ => false
theorem okTy_star {sg : Scope} {t : Ty} {e : Expr} {es : List Expr} {env : PySem.Env} (h : okTy g sg t e = true) : starEach (e :: es) env = (false, eval e env) :: starEach es env := by
  cases e with
  | Name x p => simp only [starEach]
  | _ => cases h
theorem tys_pa (B : Bd g C EW X) (Y : TyG g g.K X.mg) : ∀ (ts : List Ty) (es : List Expr), okTys g X.env.scope ts es = true → PA X es (fun _ H Q => Q (ts.map (tyVV g)) H) ∧ Paired ClsV (ts.map (tyVV g)) (ts.map (tyV g)) ∧ ∀ t ∈ ts, ∀ c, t = .cls c → isCls g c := by
  intro ts
  induction ts with
  | nil =>
    intro es h
    cases es with
    | nil => exact ⟨pa_nil, .nil, by simp⟩
    | cons e es => cases h
  | cons t ts ih =>
    intro es h
    cases es with
    | nil => cases h
    | cons e es =>
      simp only [okTys, Bool.and_eq_true] at h
      obtain ⟨h1, h2, h3⟩ := ty_pe B Y h.1
      obtain ⟨i1, i2, i3⟩ := ih es h.2
      refine ⟨PA_imp (pa_cons h1 i1 (okTy_star h.1)) fun σ H Q q => q, .cons h2 i2, fun t' ht' => ?_⟩
      rcases List.mem_cons.mp ht' with rfl | z
      · exact h3
      · exact i3 t' z
theorem s_isiT (B : Bd g C EW X) (Y : TyG g g.K X.mg) {ts : List Ty} {es : List Expr} {kk : Nat} {tpos : Pos} (ht : okTys g X.env.scope ts es = true) (hne : ts ≠ []) (hlen : ts.length ≤ 100) (hg : Gl X "isinstance") (ha : PE X a (tB g C EW m)) (he : starEach [a, .Tuple es kk tpos] X.env = (false, eval a X.env) :: starEach [.Tuple es kk tpos] X.env) :
    PE X (.Call (.Name "isinstance" p) [a, .Tuple es kk tpos] [] pos) (tE g C EW (.isi m ts)) := by
  obtain ⟨hp, hc, hi⟩ := tys_pa B Y ts es ht
  refine PE_imp (pe_callB (id := "isinstance") call_isiT hg (B.txt.blt _ (by simp)) (show bootBuiltins ("isinstance" : Str) = _ by decide +kernel) (pa_cons ha (pa_cons (pe_tup hp) pa_nil (by rfl)) he) (by decide) (by decide) he (by rfl)) fun σ H Q ⟨F, r, q⟩ => ?_
  simp only [ev] at q
  refine ⟨F, r, q.bind.mono fun F1 H1 d ⟨n1, r1, _, q1⟩ v hv => ⟨by rw [List.length_map, sizeLine_eq]; omega, fun tp htp => ?_⟩⟩
  obtain ⟨z, hz, q2⟩ := q1.opt
  obtain ⟨b, hb, rfl⟩ := Option.map_eq_some_iff.mp hz
  obtain ⟨k, hk, rfl⟩ := isiD_kd hb hne
  have r2 := r1.new (o := .tup (ts.map (tyVV g))) htp
  have hv2 := hv.later (α' := F1.α) (st' := F1.st) r1 (Nx.new (o := .tup (ts.map (tyVV g))) htp)
  obtain ⟨ty, hi2⟩ := tyx_at B.txt Y r2 hv2 hk
  refine ⟨v, tp, ts.map (tyVV g), kdV g k, ts.map (tyV g), ts.any (tyK k), rfl, upd_same, hc, by rw [B.K]; exact ty, by rw [B.K]; exact kit_any Y hi2 ts hi, ?_⟩
  exact q2.new r1 htp _ rfl
end
end Mini
end
section
set_option Elab.async false
set_option linter.all false
set_option maxRecDepth 100000
set_option maxHeartbeats 2000000
/-! # Mini: repr -/
namespace Mini
open PySem L2 PySem.Spec PyProof.Rows
mutual
theorem pyd_plain : ∀ d : D, d.plain = true → d.pyd = d.py ∧ d.pyd.hasDict = false
  | .non, _ => ⟨rfl, rfl⟩
  | .bl _, _ => ⟨rfl, rfl⟩
  | .int _, _ => ⟨rfl, rfl⟩
  | .str _, _ => ⟨rfl, rfl⟩
  | .lst l, h => by
    have q := pyds_plain l (by simpa [D.plain] using h)
    simp only [D.pyd, D.py, PyData.hasDict]
    exact ⟨congrArg _ q.1, q.2⟩
  | .tup l, h => by
    have q := pyds_plain l (by simpa [D.plain] using h)
    simp only [D.pyd, D.py, PyData.hasDict]
    exact ⟨congrArg _ q.1, q.2⟩
  | .scr _, h => by simp [D.plain] at h
  | .fn _, h => by simp [D.plain] at h
  | .ins _ _, h => by simp [D.plain] at h
  | .ptr _, h => by simp [D.plain] at h
  | .dic _ _, h => by simp [D.plain] at h
theorem pyds_plain : ∀ l : List D, D.plains l = true → D.pyds l = D.pys l ∧ PyData.hasDictAll (D.pyds l) = false
  | [], _ => ⟨rfl, rfl⟩
  | d :: ds, h => by
    have h' : d.plain = true ∧ D.plains ds = true := by simpa [D.plains] using h
    have q1 := pyd_plain d h'.1
    have q2 := pyds_plain ds h'.2
    simp only [D.pyds, D.pys, PyData.hasDictAll, q1.1, q2.1]
    refine ⟨trivial, ?_⟩
    rw [← q1.1, ← q2.1, q1.2, q2.2]
    rfl
end
section
variable {g : G} {X : Cx} {pins : List (Addr × Obj)} {σ : L2.St} {H : Hp} {s : Shared} {μ : Addr → Prop} {α : List Addr}
mutual
theorem flat_reads (I : Inv X pins σ H s) : ∀ (d : D) (v : V) (u : Value), d.flat = true → At g μ α H d v → RelV v u → ∃ as, Reads s.heap u d.pyd as ∧ sysModules ∉ as
  | .non, v, u, _, h, r => by
    have h : v = .non := h
    subst h
    cases r
    exact ⟨_, .none, by simp⟩
  | .bl b, v, u, _, h, r => by
    have h : v = .bl b := h
    subst h
    cases r
    exact ⟨_, .bool b, by simp⟩
  | .int i, v, u, _, h, r => by
    have h : v = .int i := h
    subst h
    obtain ⟨t, rfl⟩ := r
    exact ⟨_, .int i t, by simp⟩
  | .str x, v, u, _, h, r => by
    have h : v = .str x := h
    subst h
    obtain ⟨t, rfl⟩ := r
    exact ⟨_, .str x t, by simp⟩
  | .tup l, v, u, hf, h, r => by
    obtain ⟨a, vs, rfl, hH, hl⟩ := h
    cases r
    obtain ⟨its, rv, ⟨o, h1, h2, n, h3⟩, hz⟩ := I.tuple (SqT.of (K := X.K) hH.1)
    obtain ⟨as, q1, q2⟩ := flats_reads I l vs its (by simpa [D.flat] using hf) hl rv
    exact ⟨as, .tuple h1 h2 h3 (by simpa using q1), q2⟩
  | .dic ks us, v, u, hf, h, r => by
    simp only [D.flat, Bool.and_eq_true, List.isEmpty_iff] at hf
    obtain ⟨rfl, rfl⟩ := hf
    obtain ⟨a, kvs, rfl, hn, hH, hk, hv⟩ := h
    cases r
    have e : kvs = [] := by
      cases kvs with
      | nil => rfl
      | cons p q => cases hk
    subst e
    obtain ⟨_, hs, vs, hkv, o, es, ep, h1, h2, h3, h4⟩ := I.hok a _ hH
    have hs : (a == sysModules) = false := hs
    cases hkv
    have e0 : es = #[] := by
      have : es.toList = [] := by
        have q := h4.2.1
        cases hq : es.toList with
        | nil => rfl
        | cons e r => rw [hq] at q; cases q
      exact Array.toList_eq_nil_iff.mp this
    subst e0
    exact ⟨[a], Reads.dict (as := []) (bs := []) h1 h2.1 h3 .nil .nil, by simpa using fun e => by simp [e] at hs⟩
  | .lst _, _, _, hf, _, _ => by simp [D.flat] at hf
  | .scr _, _, _, hf, _, _ => by simp [D.flat] at hf
  | .fn _, _, _, hf, _, _ => by simp [D.flat] at hf
  | .ins _ _, _, _, hf, _, _ => by simp [D.flat] at hf
  | .ptr _, _, _, hf, _, _ => by simp [D.flat] at hf
theorem flats_reads (I : Inv X pins σ H s) : ∀ (l : List D) (vs : List V) (us : List Value), D.flats l = true → Ats g μ α H l vs → Vals vs us → ∃ as, ReadsAll s.heap us (D.pyds l) as ∧ sysModules ∉ as
  | [], vs, us, _, h, r => by
    have h : vs = [] := h
    subst h
    cases r
    exact ⟨_, .nil, by simp⟩
  | d :: ds, vs, us, hf, h, r => by
    have hf' : d.flat = true ∧ D.flats ds = true := by simpa [D.flats] using hf
    obtain ⟨v, vr, rfl, h1, h2⟩ := h
    cases r with
    | cons r1 r2 =>
      obtain ⟨as, q1, q2⟩ := flat_reads I d v _ hf'.1 h1 r1
      obtain ⟨bs, q3, q4⟩ := flats_reads I ds vr _ hf'.2 h2 r2
      exact ⟨_, .cons q1 q3, by simp [q2, q4]⟩
end
theorem bi_repr (hg : X.A.guards = some []) (hu : X.A.units + 64 < cLine) : CallR X (.builtin "repr") (rBi g .repr) := by
  intro pins s σ H vs us Q I r ⟨F, ds, z, hz, ha, u⟩
  match ds, hz with
  | [.tup l], hz =>
    simp only [opBi] at hz
    obtain ⟨x, hx, rfl⟩ := Option.map_eq_some_iff.mp hz
    obtain ⟨v, rfl, hv⟩ := ha.one
    have hv := hv.at (fun _ => nofun) (fun _ _ => nofun)
    unfold reprD at hx
    split at hx
    case isFalse => cases hx
    rename_i c
    cases hx
    simp only [Bool.and_eq_true, Bool.or_eq_true, decide_eq_true_eq] at c
    obtain ⟨⟨⟨c1, c2⟩, c3⟩, c4⟩ := c
    obtain ⟨u1, rfl, r1⟩ := Vals.one r
    have hR : ∃ as, Reads s.heap u1 (D.tup l).pyd as ∧ ((D.tup l).pyd.hasDict = true → sysModules ∉ as) := by
      rcases c1 with c1 | c1
      · obtain ⟨e1, e2⟩ := pyd_plain _ c1
        obtain ⟨as, q⟩ := Dp.reads I _ _ _ (At.dp (K := X.K) _ _ c1 hv) r1
        exact ⟨as, by rw [e1]; exact q, fun h => by rw [e2] at h; cases h⟩
      · obtain ⟨as, q1, q2⟩ := flat_reads I _ _ _ c1 hv r1
        exact ⟨as, q1, fun _ => q2⟩
    obtain ⟨as, q1, q2⟩ := hR
    obtain ⟨a, ws, rfl, _, _⟩ := hv
    cases r1
    refine repr_of_reads' q1 c2 q2 hg (by omega) (fun b o h => h) (fun h' u2 tk hk => ?_) (by rw [sizeLine_eq]; have : maxLen = 1000000 := rfl; omega)
    exact ⟨.str _, H, I.kept (h' := h') (t' := tk) hk, ⟨u2, rfl⟩, u.here rfl⟩
end
end Mini
end
section
set_option Elab.async false
set_option linter.all false
set_option maxRecDepth 100000
set_option maxHeartbeats 2000000
/-! # Mini: list(range(n)) -/
namespace Mini
open PySem L2 PySem.Spec PyProof.Rows
section
variable {g : G} {C : Calls} {EW : XK} {X : Cx}
theorem cr_range1 : CallR X (.type "range") (fun vs H Q => ∃ n, vs = [V.int n] ∧ ∀ p, H p = none → Q (.ref p) (upd H p (.rng 0 n))) := by
  rintro pins s σ H vs us Q I r ⟨n, rfl, q⟩
  obtain ⟨u, rfl, ru⟩ := Vals.one r
  obtain ⟨t, rfl⟩ := ru
  exact call_range_1 ⟨.ref s.heap.objs.size, upd H s.heap.objs.size (.rng 0 n), I.laid (t' := s.toks + 1 + 1) (fun b o e => Heap.get?_push_of_some _ e) (Nat.le_refl _) ⟨s.toks, t, s.toks + 1, Heap.get?_push_size _ rfl⟩, rfl, q _ (I.hok.fresh (Nat.le_refl _))⟩
theorem rsize (n : Int) : Builtin.Range.rangeSize 0 n 1 = (n.toNat : Int) := by
  unfold Builtin.Range.rangeSize
  first
    | (simp; omega)
    | (simp)
    | omega
theorem vals_of : ∀ {vs : List V} {us : List Value}, vs.length = us.length → (∀ (j : Nat) v u, vs[j]? = some v → us[j]? = some u → RelV v u) → Vals vs us
  | [], [], _, _ => .nil
  | v :: vs, u :: us, hl, h => .cons (h 0 v u rfl rfl) (vals_of (by simpa using hl) fun j v' u' e1 e2 => h (j + 1) v' u' (by simpa using e1) (by simpa using e2))
theorem ints_vals {acc : List Value} {n : Nat} (hl : acc.length = n) (h : ∀ (j : Nat) v, acc[j]? = some v → ∃ t, v = Value.int (j : Int) t) : Vals ((List.range n).map fun (i : Nat) => V.int (i : Int)) acc := by
  refine vals_of (by simp [hl]) fun j v u e1 e2 => ?_
  rw [List.getElem?_map] at e1
  obtain ⟨k, hk, rfl⟩ := Option.map_eq_some_iff.mp e1
  obtain ⟨h1, h2⟩ := List.getElem?_eq_some_iff.mp hk
  rw [List.getElem_range] at h2
  subst h2
  obtain ⟨t, rfl⟩ := h j u e2
  exact ⟨t, rfl⟩
theorem call_list_rng (hc : X.calm = true) : CallR X (.type "list") (fun vs H Q => ∃ p n, vs = [.ref p] ∧ H p = some (.rng 0 n) ∧ n ≤ 1000000 ∧ -1000000 ≤ n ∧ ∀ l, H l = none → Q (.ref l) (upd H l (.lst ((List.range n.toNat).map fun (i : Nat) => V.int (i : Int))))) := by
  rintro pins s σ H vs us Q I r ⟨p, n, rfl, hH, h1, h2, q⟩
  obtain ⟨u, rfl, ru⟩ := Vals.one r
  cases ru
  obtain ⟨t, u, v, hr⟩ := I.hok p _ hH
  refine call_list_range (n := n.toNat) (I.ok.hd hc) hr ?_ (rsize n) (by omega) fun h' tk acc c' hk hS hacc => ?_
  · exact small_one (by omega) (by omega) (by omega) (by omega)
  · have hn := I.hok.fresh (Nat.le_refl s.heap.objs.size)
    refine ⟨.ref s.heap.objs.size, _, I.laid (t' := tk) hk (Nat.le_refl _) (show ObjOk X.prog X.w _ h' _ (.lst ((List.range n.toNat).map fun (i : Nat) => V.int (i : Int))) from ⟨by rw [List.length_map, List.length_range, sizeLine_eq]; omega, acc.toList, c', ints_vals (by rw [Array.length_toList]; exact hacc.1) (fun j v hv => ?_), by simpa using hS⟩), rfl, q _ hn⟩
    obtain ⟨t, e⟩ := hacc.2 j v (by rw [← Array.getElem?_toList]; exact hv)
    exact ⟨t, by rw [e]; simp⟩
theorem s_lrange (B : Bd g C EW X) (hc : X.calm = true) {p p2 pos pos2 : Pos} {e : Expr} {m : E} (hg : Gl X "list") (hg2 : Gl X "range") (he : PE X e (tB g C EW m)) (hst : starEach [e] X.env = (false, eval e X.env) :: starEach [] X.env) :
    PE X (.Call (.Name "list" p) [.Call (.Name "range" p2) [e] [] pos2] [] pos) (tE g C EW (.bi .lrange [m])) := by
  refine PE_imp (pe_callTy (T := "list") (call_list_rng hc) hg (B.txt.blt _ (by simp)) (show bootBuiltins ("list" : Str) = _ by decide +kernel)
    (pa_cons (pe_callTy (T := "range") cr_range1 hg2 (B.txt.blt _ (by simp)) (show bootBuiltins ("range" : Str) = _ by decide +kernel) (pa_cons he pa_nil hst) (by decide) (by decide) hst (by rfl)) pa_nil (by rfl)) (by decide) (by decide) (by rfl) (by rfl)) fun σ H Q ⟨F, r, q⟩ => ?_
  simp only [ev, evs] at q
  have q' : PostK g EW F σ H (fun F' H' d => ∀ v, At g F'.μ F'.α H' d v → Q v H') ((ev g.PR C m F.ρ F.st).bind fun d st => R.ofOpt (opBi .lrange [d]) st) := by
    revert q
    cases ev g.PR C m F.ρ F.st <;> exact fun q => q
  refine ⟨F, r, q'.bind.mono fun F1 H1 d ⟨n1, r1, _, q1⟩ v hv => ?_⟩
  obtain ⟨z, hz, q2⟩ := q1.opt
  cases d with
  | int n =>
    simp only [opBi] at hz
    split at hz
    case isFalse => cases hz
    rename_i hn
    cases hz
    refine ⟨n, by rw [hv.int], fun p hp => ⟨p, n, rfl, upd_same, hn.1, hn.2, fun l hl => ?_⟩⟩
    have r2 := r1.new (o := .rng 0 n) hp
    refine q2 _ F1.α ((Nx.new hp).trans (Nx.new hl)) (r2.new hl) _ (r2.newLst hl (Ats.of_all (by simp) fun i d v e1 e2 => ?_))
    rw [List.getElem?_map] at e1 e2
    obtain ⟨k, hk, rfl⟩ := Option.map_eq_some_iff.mp e1
    rw [hk] at e2
    cases e2
    rfl
  | _ => simp [opBi] at hz
end
end Mini
end
section
set_option Elab.async false
set_option linter.all false
set_option maxRecDepth 100000
set_option maxHeartbeats 2000000
/-! # Mini: sorted(set(xs)), xs a list of ints -/
namespace Mini
open PySem L2 PySem.Spec PyProof.Rows
/-- a new set's object -/
def nilSet (w : World) : Obj := { cls := .type "set", dict := none, data := .set #[] 0 (.fresh 0 0 (!w.params.followText "set-order")) }
section
variable {P : Program} {w : World} {A : Around} {E : Value → Shared → Prop} {s : Shared}
theorem fill_lst {l : Addr} {items : Array Value} {ns : List Int} {R : Result → Shared → Prop} (hh : A.handled = none) (hl : s.heap.IsList l items) (hi : IntsAre items.toList ns) (hb : ns.length + 1 < scanBound)
    (hR : ∀ h' tk c, SetR w h' s.heap.objs.size (fun j => decide (j ∈ ns)) c → c ≤ ns.length → (∀ b o, s.heap.get? b = some o → h'.get? b = some o) → R (.ok (.ret .none)) { s with heap := h', toks := tk }) :
    codeAny (model P w) A (.builtin "set.update.loop" ⟨[.ref s.heap.objs.size, .ref (s.heap.push (nilSet w)).objs.size], []⟩) R
      { s with heap := (s.heap.push (nilSet w)).push { cls := .type "list_iterator", data := .fields #[.ref l, .int 0 0] } } := by
  have zs : items.size = ns.length := by rw [← Array.length_toList]; exact hi.length
  have old : l < s.heap.objs.size := by obtain ⟨o, ho, _⟩ := hl; exact Heap.lt_size ho
  have sz : (s.heap.push (nilSet w)).objs.size = s.heap.objs.size + 1 := Heap.size_push ..
  have lI : l ≠ (s.heap.push (nilSet w)).objs.size := Nat.ne_of_lt (by rw [sz]; exact Nat.lt_succ_of_lt old)
  have at0 : (s.heap.push (nilSet w)).get? s.heap.objs.size = some (nilSet w) := Heap.get?_push_size _ rfl
  refine set_update_ints ((Walks.list (show A.in1.handled = none from hh) _ l lI items).toS) s.heap.objs.size (by simp only [sz, List.mem_cons, List.not_mem_nil, or_false, not_or]; exact ⟨Nat.ne_of_lt (Nat.lt_succ_self _), Nat.ne_of_gt old⟩) ns zs hb (fun i v hv => ?_) (items.size - 0) 0 _ (by omega) (Nat.zero_le _)
    ⟨⟨_, Heap.get?_push_size _ rfl, rfl, rfl⟩, ((hl.push _).push _)⟩ ⟨0, Nat.le_refl 0, setR_new_at (Heap.get?_push_of_some _ at0)⟩ fun s' c m hc hS => ?_
  · have hn : i < ns.length := zs ▸ (Array.getElem?_eq_some_iff.mp hv).1
    obtain ⟨t, e⟩ := hi.int_at i v (by rw [Array.getElem?_toList]; exact hv)
    exact ⟨ns[i], t, List.getElem?_eq_getElem hn, by rw [e, List.getD_eq_getElem?_getD, List.getElem?_eq_getElem hn]; rfl⟩
  · obtain ⟨h', g', d', tk', os'⟩ := s'
    obtain rfl : g' = s.gens := m.gens
    obtain rfl : d' = s.drawn := m.drawn
    obtain rfl : os' = s.os := m.os
    refine hR h' tk' c hS (zs ▸ hc) fun b o e => m.heap b o ?_ (Heap.get?_push_of_some _ (Heap.get?_push_of_some _ e))
    have lt := Heap.lt_size e
    simp only [sz, List.mem_cons, List.not_mem_nil, or_false, not_or]
    exact ⟨Nat.ne_of_lt lt, Nat.ne_of_lt (Nat.lt_succ_of_lt lt)⟩
set_option maxHeartbeats 3200000 in
/-- set(l), l a list of ints -/
theorem call_set_ints {l : Addr} {items : Array Value} {ns : List Int} {Q : Value → Shared → Prop} (hh : A.handled = none) (hl : s.heap.IsList l items) (hi : IntsAre items.toList ns) (hb : ns.length + 1 < scanBound)
    (hQ : ∀ h' tk c, SetR w h' s.heap.objs.size (fun j => decide (j ∈ ns)) c → c ≤ ns.length → (∀ b o, s.heap.get? b = some o → h'.get? b = some o) → Q (.ref s.heap.objs.size) { s with heap := h', toks := tk }) :
    wpAny (model P w) A (call (.type "set") [.ref l]) Q E s := by
  have ⟨c, tl, y1⟩ := F.called_set.mro; have y2 := F.called_set.made; have y3 := F.called_set.sub; have y4 := F.called_set.notType; have y5 := F.called_set.canCreate; have y6 := F.typeCall_set_1 (.ref l)
  refine wpAny_call (codeAny_of_tree (show wpAny _ _ (callAny (.type "set") _) _ _ _ from wpAny_pure ⟨Code.quiet_builtin _ (by decide +kernel), codeAny_builtin F.entry_type_call ?_⟩))
  rw [Around.under_plain (weight_type_call_type "set" [.ref l] []) rfl]; repeat (any_goals (first | assumption | wp_step))
  refine codeAny_mono (code_set_led1 (.ref l) (E := E) (Q₁ := fun x t => x = .ref s.heap.objs.size ∧ t = { s with heap := s.heap.push (nilSet w) }) ⟨rfl, rfl⟩) fun r t hr => ?_
  rcases r with e | fl
  · exact hr
  cases fl with
  | ret x =>
    obtain ⟨rfl, rfl⟩ := hr
    have z0 : (s.heap.push (nilSet w)).get? s.heap.objs.size = some (nilSet w) := Heap.get?_push_size _ rfl
    have zT : Shared.TypeIs { s with heap := s.heap.push (nilSet w) } (.ref s.heap.objs.size) "set" := ⟨_, z0, rfl⟩
    have y7 := F.called_set.init.lookup; have y8 := F.called_set.init.bind (.ref s.heap.objs.size); repeat (any_goals (first | assumption | wp_step))
    refine codeAny_mono (codeAny_call_builtin (R := wants (fun r t => r = .none ∧ ∃ h' tk c, t = { s with heap := h', toks := tk } ∧ SetR w h' s.heap.objs.size (fun j => decide (j ∈ ns)) c ∧ c ≤ ns.length ∧ ∀ b o, s.heap.get? b = some o → h'.get? b = some o) E) F.called_set.init.plain F.entry_set_init (check_set_init_1 zT ?_)) fun r2 t2 hr2 => ?_
    · have hl0 := hl
      obtain ⟨⟨oc, od, dt, sl⟩, ho, hc, n, hd⟩ := hl; simp only at hc hd; subst hc hd
      have ho' : (s.heap.push (nilSet w)).get? l = some { cls := .type "list", dict := od, data := .seq items n, slots := sl } := Heap.get?_push_of_some _ ho
      have y9 := F.sub_list_set; have y10 := F.sub_list_frozenset; have y11 : (Value.type "list" == Value.type "dict") = false := by decide
      have l1 : (s.heap.push (nilSet w)).IsList l items := ⟨_, ho', rfl, n, rfl⟩
      unfold Builtin.«set.__init__» noKeywords Builtin.Frozenset.updateFrom
      generalize hP : pyIter = PP
      wp_walk
      subst hP
      refine wpAny_pyIter_list l1 (wpAny_bind (wpAny_runValue (fill_lst (show A.in1.in1.handled = none from hh) hl0 hi hb fun h' tk c hS hc hk => ?_)))
      show wpAny _ _ _ _ _ _
      refine wpAny_pure (show wpAny _ _ (ret Value.none) _ _ _ from wpAny_pure ⟨rfl, h', tk, c, rfl, hS, hc, hk⟩)
    · rcases r2 with e | fl2
      · exact hr2
      cases fl2 with
      | ret r =>
        obtain ⟨rfl, h', tk, c', rfl, hS, hc', hk⟩ := hr2
        repeat (any_goals (first | assumption | wp_step))
        exact hQ _ _ _ hS hc' hk
      | _ => exact hr2.elim
  | _ => exact hr.elim
end
section
variable {g : G} {C : Calls} {EW : XK} {X : Cx}
def rSetL (K : PySem.W.Frag) (w : World) : List V → Hp → VK → Prop := fun vs H Q => ∃ (a : Addr) (ns : List Int), vs = [.ref a] ∧ SqL K H a (ns.map V.int) ∧ ns.length < 64 ∧ ∀ p n, H p = none → n ≤ ns.length → Q (.ref p) (upd H p (SetO w p (fun j => decide (j ∈ ns)) n))
theorem cr_setL (hc : X.calm = true) : CallR X (.type "set") (rSetL X.K X.w) := by
  intro pins s σ H vs us Q I r ⟨a, ns, e, hq, hl, q⟩
  subst e
  rw [Vals.ref1 r]
  obtain ⟨its, rv, pl, hz⟩ := I.list hq
  have hn : H s.heap.objs.size = none := I.hok.fresh (Nat.le_refl _)
  exact call_set_ints (I.ok.hd hc) pl.isList (by simpa using ints_of_vals rv) (by unfold scanBound; omega) fun h' tk c R hcn k => ⟨.ref s.heap.objs.size, upd H s.heap.objs.size (SetO X.w s.heap.objs.size (fun j => decide (j ∈ ns)) c), I.laid (t' := tk) k (Nat.le_refl _) (setO_new R), rfl, q _ c hn hcn⟩
theorem s_sortedset (B : Bd g C EW X) (hc : X.calm = true) {p p2 pos pos2 : Pos} {e : Expr} {m : E} (hg : Gl X "sorted") (hg2 : Gl X "set") (he : PE X e (tB g C EW m)) (hst : starEach [e] X.env = (false, eval e X.env) :: starEach [] X.env) :
    PE X (.Call (.Name "sorted" p) [.Call (.Name "set" p2) [e] [] pos2] [] pos) (tE g C EW (.bi .sortedset [m])) := by
  refine PE_imp (pe_callB (id := "sorted") (cr_sortedSet hc) hg (B.txt.blt _ (by simp)) (show bootBuiltins ("sorted" : Str) = _ by decide +kernel)
    (pa_cons (pe_callTy (T := "set") (cr_setL hc) hg2 (B.txt.blt _ (by simp)) (show bootBuiltins ("set" : Str) = _ by decide +kernel) (pa_cons he pa_nil hst) (by decide) (by decide) hst (by rfl)) pa_nil (by rfl)) (by decide) (by decide) (by rfl) (by rfl)) fun σ H Q ⟨F, r, q⟩ => ?_
  simp only [ev, evs] at q
  have q' : PostK g EW F σ H (fun F' H' d => ∀ v, At g F'.μ F'.α H' d v → Q v H') ((ev g.PR C m F.ρ F.st).bind fun d st => R.ofOpt (opBi .sortedset [d]) st) := by
    revert q
    cases ev g.PR C m F.ρ F.st <;> exact fun q => q
  refine ⟨F, r, q'.bind.mono fun F1 H1 d ⟨n1, r1, _, q1⟩ v hv => ?_⟩
  obtain ⟨z, hz, q2⟩ := q1.opt
  cases d with
  | lst l =>
    simp only [opBi] at hz
    obtain ⟨is, hi, hz⟩ := Option.bind_eq_some_iff.mp hz
    split at hz
    case isFalse => cases hz
    rename_i hlt
    cases hz
    obtain ⟨a, ws, rfl, hH, hl⟩ := hv.lst
    have ew := hl.ints hi
    subst ew
    refine ⟨a, is, rfl, SqL.of hH, hlt, fun p n hp hn => ⟨p, _, n, rfl, upd_same, by omega, fun ms p2 hs hm hml hp2 => ?_⟩⟩
    have r2 := r1.new (o := SetO X.w p (fun j => decide (j ∈ is)) n) hp
    have em := sorted_is (ns := is) hs fun k => by simpa using hm k
    refine q2 _ F1.α ((Nx.new hp).trans (Nx.new hp2)) (r2.new hp2) _ (r2.newLst hp2 ?_)
    rw [← em]
    exact Ats.of_all (by simp) fun i d v e1 e2 => by
      rw [List.getElem?_map] at e1 e2
      obtain ⟨k, hk, rfl⟩ := Option.map_eq_some_iff.mp e1
      rw [hk] at e2
      cases e2
      rfl
  | _ => simp [opBi] at hz
end
end Mini
end
section
set_option Elab.async false
set_option linter.all false
set_option maxRecDepth 100000
set_option maxHeartbeats 2000000
/-! # Mini: list comprehensions, the rules -/
namespace Mini
open PySem L2 PySem.Spec PyProof.Rows
section
variable {g : G} {C : Calls} {EW : XK} {X : Cx} {w : Nat}
/-- a comprehension's block is a body, too -/
theorem Bd.blk (B : Bd g C EW X) {s : Shared} {H : Hp} {scope : Scope} {cenv : PySem.Env} {fp : List Addr} : Bd g C EB (X.blk s H scope cenv fp) :=
  ⟨B.K, B.txt, B.guards, B.nodup, takes_none5, B.defs, B.room, B.exs⟩
/-- what the block's text says: its names, target, test, element -/
structure LcOk (g : G) (C : Calls) (EW : XK) (X : Cx) (elt tg iter : Expr) (ifs : List Expr) (scope : Scope) (own : List (Str × Nat)) (b : Bool) (e : E) (t : T) (ik : ItK) (src : List E) (c : E) : Prop where
  it : PI X tg iter (tIt g C EW b ik src)
  ok : BlkOk X.N X.env.scope scope own
  tg : ∀ (s : Shared) (H : Hp) (Ca : Addr) (cl : List (Str × Addr)) (fp : List Addr), PG (X.blk s H scope (compEnvC scope cl Ca X.env) fp) tg (tG g t)
  tst : ∀ (s : Shared) (H : Hp) (Ca : Addr) (cl : List (Str × Addr)) (fp : List Addr), PTs (X.blk s H scope (compEnvC scope cl Ca X.env) fp) ifs (tT g C EB c)
  elt : ∀ (s : Shared) (H : Hp) (Ca : Addr) (cl : List (Str × Addr)) (fp : List Addr), PE (X.blk s H scope (compEnvC scope cl Ca X.env) fp) elt (tE g C EB e)
  n1 : ∀ i, i ∈ own.map (·.2) → i ∈ t.names
  n2 : ∀ i, i ∈ t.names → i ∈ own.map (·.2)
  nf : ∀ x, foldedSetIterable iter X.env x = pure x
variable {elt tg iter : Expr} {ifs : List Expr} {scope : Scope} {own : List (Str × Nat)} {b : Bool} {e c : E} {t : T} {ik : ItK} {src : List E} {pos spos py : Pos} {i : Nat} {y : Str}
theorem n_comp (hc : X.calm = true) (hN : X.N.Nodup) (L : LcOk g C EW X elt tg iter ifs scope own b e t ik src c) : PE X (.ListComp elt [⟨tg, iter, ifs, 0⟩] scope pos) (tN g C EW (.comp e t ik src c)) :=
  PE_imp (pe_lc hc hN L.it L.ok L.tg L.tst L.elt L.nf) fun σ H Q q => lc_of L.n1 L.n2 q
/-- name = [..] on one line -/
theorem t_ownLc (hc : X.calm = true) (hN : X.N.Nodup) (L : LcOk g C EW X elt tg iter ifs scope own b e t ik src c) (hy : X.N[i]? = some y) (hyl : X.env.scope.names.lookup y = some .local) (hsw : swapsWith (.ListComp elt [⟨tg, iter, ifs, 0⟩] scope pos) (some (.Name y py)) spos.line X.env = pure true) :
    PS X (.Assign [.Name y py] (.ListComp elt [⟨tg, iter, ifs, 0⟩] scope pos) spos) (tS g C EW w (.set (.own i) (.comp e t ik src c))) :=
  PS_imp (ps_setLc hc hN hy hyl hsw L.it L.ok L.tg L.tst L.elt L.nf) fun Dn σ H q => lc_of L.n1 L.n2 (own_of q)
theorem t_nmLc (hc : X.calm = true) (hN : X.N.Nodup) (L : LcOk g C EW X elt tg iter ifs scope own b e t ik src c) (hy : X.N[i]? = some y) (hyl : X.env.scope.names.lookup y = some .local) (hsw : swapsWith (.ListComp elt [⟨tg, iter, ifs, 0⟩] scope pos) (some (.Name y py)) spos.line X.env = pure true) :
    PS X (.Assign [.Name y py] (.ListComp elt [⟨tg, iter, ifs, 0⟩] scope pos) spos) (tS g C EW w (.set (.nm i) (.comp e t ik src c))) :=
  PS_imp (ps_setLc hc hN hy hyl hsw L.it L.ok L.tg L.tst L.elt L.nf) fun Dn σ H q => lc_of L.n1 L.n2 (nm_of q)
theorem ts_yes {X : Cx} {EW : XK} : PTs X [] (tT g C EW (.k (.bl true))) := ⟨fun pins s σ H Q I ⟨F, r, p⟩ => pts_nil.run pins s σ H Q I (by
  obtain ⟨b, e, q⟩ := p.now r
  cases e
  exact q)⟩
end
end Mini
end
section
set_option Elab.async false
set_option linter.all false
set_option maxRecDepth 100000
set_option maxHeartbeats 2000000
/-! # Mini: side conditions of the rules, told by the text's form -/
namespace Mini
open PySem L2 PySem.Spec PyProof.Rows
def notStar : Expr → Bool
  | .Starred _ _ => false
  | _ => true
theorem star_ok {e : Expr} {es : List Expr} {env : PySem.Env} (h : notStar e = true) : starEach (e :: es) env = (false, eval e env) :: starEach es env := by
  cases e with
  | Starred _ _ => cases h
  | _ => simp only [starEach]
theorem star_any {pos : Pos} {env : PySem.Env} : ∀ {es : List Expr}, es.all notStar = true → (backTo pos (starEach es env)).any (·.1) = false := by
  intro es
  induction es with
  | nil => intro _; rfl
  | cons e es ih =>
    intro h
    simp only [List.all_cons, Bool.and_eq_true] at h
    rw [star_ok h.1]
    have := ih h.2
    simpa [backTo] using this
theorem star_all {pos : Pos} {env : PySem.Env} : ∀ {es : List Expr}, es.all notStar = true → (backTo pos (starEach es env)).all (fun x => !x.1) = true := by
  intro es
  induction es with
  | nil => intro _; rfl
  | cons e es ih =>
    intro h
    simp only [List.all_cons, Bool.and_eq_true] at h
    rw [star_ok h.1]
    have := ih h.2
    simpa [backTo] using this
/-- an expression whose truth is asked of its value -/
def plainT : Expr → Bool
  | .UnaryOp op _ _ => match op with
    | .Not => false
    | _ => true
  | .BoolOp _ _ _ => false
  | .IfExp _ _ _ _ => false
  | .Compare _ _ _ _ => false
  | _ => true
theorem plainT_ok {e : Expr} {env : PySem.Env} (h : plainT e = true) (whole : Sem Value) : isTrue e env whole = (do let v ← whole; standAt e.pos; holding [v] (truthy v)) := by
  cases e with
  | UnaryOp op x p =>
    cases op with
    | Not => cases h
    | _ => simp only [PySem.isTrue]
  | BoolOp _ _ _ => cases h
  | IfExp _ _ _ _ => cases h
  | Compare _ _ _ _ => cases h
  | _ => simp only [PySem.isTrue]
def notSlice : Expr → Bool
  | .Slice _ _ _ _ => false
  | _ => true
theorem plainIx {e : Expr} (h : notSlice e = true) : PlainIx e := fun o i => by
  cases e with
  | Slice _ _ _ _ => cases h
  | _ => rfl
def notComp : Expr → Bool
  | .ListComp _ _ _ _ => false
  | .SetComp _ _ _ _ => false
  | .DictComp _ _ _ _ _ => false
  | _ => true
theorem swaps_no {e : Expr} {t : Option Expr} {l : Nat} {env : PySem.Env} (h : notComp e = true) : swapsWith e t l env = pure false := by
  cases e with
  | ListComp _ _ _ _ => cases h
  | SetComp _ _ _ _ => cases h
  | DictComp _ _ _ _ _ => cases h
  | _ => rfl
/-- a comprehension into a name that is no plain local -/
theorem swaps_cell {elt : Expr} {gs : List Comprehension} {scope : Scope} {pos py : Pos} {y : Str} {l : Nat} {env : PySem.Env} (h : (env.scope.names.lookup y == some .local) = false) : swapsWith (.ListComp elt gs scope pos) (some (.Name y py)) l env = pure false := by
  unfold swapsWith
  have e : (env.kindOf y == some .local) = false := h
  simp [e]
theorem swaps_tup {elt : Expr} {gs : List Comprehension} {scope : Scope} {pos : Pos} {l : Nat} {env : PySem.Env} {ts : List Expr} {k : Nat} {p : Pos} : swapsWith (.ListComp elt gs scope pos) (some (.Tuple ts k p)) l env = pure false := by
  unfold swapsWith
  rfl
theorem swaps_fld {elt : Expr} {gs : List Comprehension} {scope : Scope} {pos : Pos} {l : Nat} {env : PySem.Env} {o : Expr} {f : Str} {p : Pos} : swapsWith (.ListComp elt gs scope pos) (some (.Attribute o f p)) l env = pure false := by
  unfold swapsWith
  rfl
theorem swaps_sub {elt : Expr} {gs : List Comprehension} {scope : Scope} {pos : Pos} {l : Nat} {env : PySem.Env} {o i : Expr} {p : Pos} : swapsWith (.ListComp elt gs scope pos) (some (.Subscript o i p)) l env = pure false := by
  unfold swapsWith
  rfl
def notSet : Expr → Bool
  | .Set _ _ _ => false
  | _ => true
theorem notSet_ok {e : Expr} {env : PySem.Env} (h : notSet e = true) (x : Value) : foldedSetIterable e env x = pure x := by
  cases e with
  | Set _ _ _ => cases h
  | _ => rfl
def notSuper : Expr → Bool
  | .Call f _ _ _ => match f with
    | .Name x _ => !(x == ("super" : Str))
    | _ => true
  | _ => true
theorem notSuper_ok {e : Expr} {f : Str} {env : PySem.Env} {w : Sem Value} (h : notSuper e = true) : attributeBase e f env w = w := by
  cases e with
  | Call fn as ks p =>
    cases fn with
    | Name x q =>
      cases as with
      | nil =>
        cases ks with
        | nil =>
          have h : (!(x == ("super" : Str))) = true := h
          have h2 : (x != ("super" : Str)) = true := h
          unfold attributeBase
          simp [h2]
        | cons _ _ => rfl
      | cons _ _ => rfl
    | _ => rfl
  | _ => rfl
theorem meth_eval {o : Expr} {m : Str} {apos pos : Pos} {as : List Expr} {env : PySem.Env} (h : notSuper o = true) (hl : (apos.endLine == pos.line) = true) (hs : as.all notStar = true) (hn : as.length < 20) :
    eval (.Call (.Attribute o m apos) as [] pos) env = (do
      let ov ← eval o env
      standAt apos.atName
      let (f, first) ← holding [ov] (getMethod ov m (plainOf o env))
      callWith pos f first (backTo pos (starEach as env)) (backToKw pos (keywordEach [] env))) := by
  have hf : methodCallForm (as.length + 0) (backTo pos (starEach as env)) (backToKw pos (keywordEach [] env)) = true := by
    unfold methodCallForm
    rw [star_all hs]
    simp [keywordEach, backToKw]
    omega
  rw [arm_eval_Call, notSuper_ok h]
  refine congrArg (bind (eval o env)) (funext fun ov => ?_)
  refine congrArg (bind (standAt apos.atName)) (funext fun _ => ?_)
  exact mcall_line hf hl
theorem assign1 {e : Expr} {env : PySem.Env} (h : notStar e = true) : (assignEach [e] env).map (·.2) = [assign e env] := by
  cases e with
  | Starred _ _ => cases h
  | _ => simp only [assignEach, List.map_cons, List.map_nil]
theorem assignC {e : Expr} {es : List Expr} {env : PySem.Env} (h : notStar e = true) : (assignEach (e :: es) env).map (·.2) = assign e env :: (assignEach es env).map (·.2) := by
  cases e with
  | Starred _ _ => cases h
  | _ => simp only [assignEach, List.map_cons]
theorem assignL {env : PySem.Env} : ∀ {es : List Expr}, es.all notStar = true → (assignEach es env).length = es.length ∧ (assignEach es env).findIdx? (·.1) = none := by
  intro es
  induction es with
  | nil => intro _; exact ⟨rfl, rfl⟩
  | cons e es ih =>
    intro h
    simp only [List.all_cons, Bool.and_eq_true] at h
    obtain ⟨h1, h2⟩ := ih h.2
    have e1 : assignEach (e :: es) env = (false, assign e env) :: assignEach es env := by
      cases e with
      | Starred _ _ => simp [notStar] at h
      | _ => simp only [assignEach]
    rw [e1]
    refine ⟨by simp [h1], ?_⟩
    rw [List.findIdx?_cons]
    simp [h2]
def notTup : Expr → Bool
  | .Tuple _ _ _ => false
  | _ => true
theorem stores_v {ts : List Expr} {e : Expr} {env : PySem.Env} (h : notTup e = true) : swappedStores ts e env = pure none := by
  unfold swappedStores
  cases e with
  | Tuple _ _ _ => cases h
  | _ => rcases ts with _ | ⟨t, _ | ⟨t2, ts⟩⟩ <;> first | rfl | (cases t <;> rfl)
def notSeqT : Expr → Bool
  | .Tuple _ _ _ => false
  | .List _ _ => false
  | _ => true
theorem stores_t {t e : Expr} {env : PySem.Env} (h : notSeqT t = true) : swappedStores [t] e env = pure none := by
  unfold swappedStores
  cases t with
  | Tuple _ _ _ => cases h
  | List _ _ => cases h
  | _ => rfl
def visB (sc : Scope) (x : Str) : Bool := match sc.names.lookup x with
  | some .local => true
  | some .cell => true
  | some .free => true
  | _ => false
theorem visB_ok {sc : Scope} {x : Str} (h : visB sc x = true) : Vis sc x := by
  unfold visB at h
  split at h
  · exact .inl (by assumption)
  · exact .inr (.inl (by assumption))
  · exact .inr (.inr (by assumption))
  · cases h
def locB (sc : Scope) (x : Str) : Bool := match sc.names.lookup x with
  | some .local => true
  | some .cell => true
  | _ => false
theorem locB_ok {sc : Scope} {x : Str} (h : locB sc x = true) : Loc sc x := by
  unfold locB at h
  split at h
  · exact .inl (by assumption)
  · exact .inr (by assumption)
  · cases h
def glB (sc : Scope) (x : Str) : Bool := match sc.names.lookup x with
  | some .globalImplicit => true
  | _ => false
theorem glB_ok {X : Cx} {x : Str} (h : glB X.env.scope x = true) : Gl X x := by
  unfold glB at h
  split at h
  · assumption
  · cases h
end Mini
end
section
set_option Elab.async false
set_option linter.all false
set_option maxRecDepth 100000
set_option maxHeartbeats 2000000
/-! # Mini: does the Mini text tell of the program's text? -/
namespace Mini
open PySem L2 PySem.Spec PyProof.Rows
/-- where we read: may lambdas be made, the names of the def, the scope -/
structure CE where
  lam : Bool
  N : List Str
  sc : Scope
  /-- a block's own scope, as the text has it -/
  blk : Option Scope
def CE.fn (ce : CE) (x : Str) : Bool := match ce.blk with
  | none => true
  | some s => s.names.lookup x == some .cell
/-- v: a value; b: a value read at once; t: a test; w: a test of several parts -/
inductive Md where | v | b | t | w
  deriving DecidableEq
def bopIs : BOp → Operator → Bool
  | .add, .Add => true
  | .sub, .Sub => true
  | .mul, .Mult => true
  | .fdiv, .FloorDiv => true
  | .md, .Mod => true
  | .pow, .Pow => true
  | _, _ => false
theorem bopIs_ok {o : BOp} {p : Operator} (h : bopIs o p = true) : p = bopP o := by
  cases o <;> cases p <;> first | rfl | cases h
def copIs : COp → CmpOp → Bool
  | .eq, .Eq => true
  | .ne, .NotEq => true
  | .lt, .Lt => true
  | .le, .LtE => true
  | .gt, .Gt => true
  | .ge, .GtE => true
  | .is, .Is => true
  | .isnot, .IsNot => true
  | .isin, .In => true
  | .notin, .NotIn => true
  | _, _ => false
theorem copIs_ok {o : COp} {p : CmpOp} (h : copIs o p = true) : p = copP o := by
  cases o <;> cases p <;> first | rfl | cases h
def dbg (x : Str) : Bool := !(x == ("__debug__" : Str)) && !(x == ("__classdict__" : Str))
theorem dbg_ok {x : Str} (h : dbg x = true) : (x == ("__debug__" : Str)) = false ∧ (x == ("__classdict__" : Str)) = false := by
  simpa [dbg] using h
def isK (d : D) : Expr → Bool
  | .Constant k _ _ => okK d k
  | _ => false
/-- the local name at i -/
def isVar (ce : CE) (i : Nat) : Expr → Bool
  | .Name x _ => decide (ce.N[i]? = some x) && visB ce.sc x && dbg x
  | _ => false
/-- a name of the top -/
def isTop (ce : CE) (x : Str) : Expr → Bool
  | .Name y _ => decide (y = x) && glB ce.sc x && dbg x
  | _ => false
def isNeg (m : E) : Expr → Bool
  | .UnaryOp op e _ => match op, m with
    | .USub, .k (.int i) => isK (.int i) e
    | _, _ => false
  | _ => false
/-- the built-in function's name -/
def biNm : Bi → Str
  | .len => "len"
  | .int => "int"
  | .tuple => "tuple"
  | .list => "list"
  | .sorted => "sorted"
  | .all => "all"
  | .any => "any"
  | .sum => "sum"
  | .max1 => "max"
  | .min1 => "min"
  | .max2 => "max"
  | .min2 => "min"
  | .repr => "repr"
  | _ => ""
def biOk : Bi → Bool
  | .len => true
  | .int => true
  | .tuple => true
  | .list => true
  | .sorted => true
  | .all => true
  | .any => true
  | .sum => true
  | .max1 => true
  | .min1 => true
  | .max2 => true
  | .min2 => true
  | .repr => true
  | _ => false
/-- a comprehension's, a for's target: the names' places -/
def okT : CE → T → Expr → Bool
  | ce, .nm i, e => (match e with
    | .Name x _ => decide (ce.N[i]? = some x) && locB ce.sc x && (ce.fn x || ce.sc.names.lookup x == some .local)
    | _ => false)
  | ce, .tup ts, e => (match e with
    | .Tuple es _ _ => decide (es.length = ts.length) && es.all notStar && okTs ce ts es
    | _ => false)
  | _, _, _ => false
where okTs : CE → List T → List Expr → Bool
  | _, [], [] => true
  | ce, t :: ts, e :: es => okT ce t e && okTs ce ts es
  | _, _, _ => false
def isYes : E → Bool
  | .k d => (match d with
    | .bl b => b
    | _ => false)
  | _ => false
theorem isYes_ok {c : E} (h : isYes c = true) : c = .k (.bl true) := by
  cases c with
  | k d =>
    cases d with
    | bl b =>
      have : b = true := h
      rw [this]
    | _ => cases h
  | _ => cases h
def isTupE : Expr → Bool
  | .Tuple _ _ _ => true
  | _ => false
/-- what is walked; f: are these the sources? -/
def itF (ce : CE) (ik : ItK) (f : List Expr → Bool) (tg iter : Expr) : Bool := match ik with
  | .seq => f [iter] && notSet iter
  | .rng => (match iter with
    | .Call fn as ks _ => ks.isEmpty && isTop ce "range" fn && as.length == 1 && f as
    | _ => false)
  | .rng2 => (match iter with
    | .Call fn as ks _ => ks.isEmpty && isTop ce "range" fn && as.length == 2 && f as
    | _ => false)
  | .enum => (match iter with
    | .Call fn as ks _ => ks.isEmpty && isTop ce "enumerate" fn && as.length == 1 && f as && isTupE tg
    | _ => false)
  | .zip => (match iter with
    | .Call fn as ks _ => ks.isEmpty && isTop ce "zip" fn && as.length == 2 && f as && isTupE tg
    | _ => false)
  | .enumzip => false
/-- the places of a comprehension's own names -/
def ownOf (N : List Str) (scope : Scope) (is : List Nat) : List (Str × Nat) := is.map fun i => (N.getD i "", i)
def noPar (a : Arguments) : Bool := a.posonlyargs.isEmpty && a.args.isEmpty && a.vararg.isNone && a.kwonlyargs.isEmpty && a.kw_defaults.isEmpty && a.kwarg.isNone && a.defaults.isEmpty
section
variable (g : G)
mutual
def okE : Md → CE → E → Expr → Bool
  | md, ce, .k d, e => decide (md ≠ .w) && isK d e
  | md, ce, .gi x i, e => decide (md ≠ .w) && decide (g.NM.gi x = some i) && isTop ce x e
  | md, ce, .fn f, e => decide (md ≠ .w) && g.NM.top f && isTop ce (g.NM.fn f) e
  | md, ce, .var i, e => decide (md ≠ .w) && isVar ce i e
  | md, ce, .bor i, e => decide (md = .b) && isVar ce i e
  | md, ce, .tup ms, e => decide (md ≠ .w) && (match e with
    | .Tuple l _ _ => decide (ms.length ≤ 1000) && okEs .v ce ms l
    | _ => false)
  | md, ce, .lst ms, e => decide (md ≠ .w) && (match e with
    | .List l _ => decide (ms.length ≤ 1000) && okEs .v ce ms l
    | _ => false)
  | md, ce, .edic, e => decide (md ≠ .w) && (match e with
    | .Dict ks vs _ => ks.isEmpty && vs.isEmpty
    | _ => false)
  | md, ce, .bin o a b, e => decide (md ≠ .w) && (match e with
    | .BinOp x op y _ => bopIs o op && okE .b ce a x && okE .b ce b y
    | _ => false)
  | md, ce, .neg a, e => decide (md = .v ∨ md = .b) && isNeg a e
  | md, ce, .cmp o a b, e => decide (md ≠ .w) && (match e with
    | .Compare x ops ys _ => (match ops, ys with
      | [op], [y] => copIs o op && okE .b ce a x && okE .b ce b y && !behindInMarks op y
      | _, _ => false)
    | _ => false)
  | md, ce, .chn o o' a b c, e => decide (md ≠ .w) && (match e with
    | .Compare x ops ys _ => (match ops, ys with
      | [op, op'], [y, z] => copIs o op && copIs o' op' && okE .b ce a x && okE .b ce b y && okE .b ce c z && !lastMarks [op, op'] [y, z]
      | _, _ => false)
    | _ => false)
  | md, ce, .and a b, e => (match e with
    | .BoolOp op l p => (match op, l with
      | .And, [x, y] => (if md = .t ∨ md = .w then okE .t ce a x && okE .t ce b y else okE .v ce a x && okE .v ce b y)
      | .And, x :: y :: z :: r => (if md = .t ∨ md = .w then okE .t ce a x && okE .w ce b (.BoolOp .And (y :: z :: r) p) else okE .v ce a x && okE .v ce b (.BoolOp .And (y :: z :: r) p))
      | _, _ => false)
    | _ => false)
  | md, ce, .or a b, e => (match e with
    | .BoolOp op l p => (match op, l with
      | .Or, [x, y] => (if md = .t ∨ md = .w then okE .t ce a x && okE .t ce b y else okE .v ce a x && okE .v ce b y)
      | .Or, x :: y :: z :: r => (if md = .t ∨ md = .w then okE .t ce a x && okE .w ce b (.BoolOp .Or (y :: z :: r) p) else okE .v ce a x && okE .v ce b (.BoolOp .Or (y :: z :: r) p))
      | _, _ => false)
    | _ => false)
  | md, ce, .not a, e => decide (md ≠ .w) && (match e with
    | .UnaryOp op x _ => (match op with
      | .Not => (if md = .t then okE .t ce a x else okE .v ce a x)
      | _ => false)
    | _ => false)
  | md, ce, .tru a, e => decide (md = .t) && plainT e && okE .b ce a e
  | md, ce, .ite c a b, e => decide (md = .v ∨ md = .b) && (match e with
    | .IfExp z x y _ => okE .t ce c z && okE .v ce a x && okE .v ce b y
    | _ => false)
  | md, ce, .ix a i, e => decide (md ≠ .w) && (match e with
    | .Subscript x y _ => notSlice y && okE .b ce a x && okE .b ce i y
    | _ => false)
  | md, ce, .sl a lo hi, e => decide (md ≠ .w) && (match e with
    | .Subscript x s _ => (match s with
      | .Slice l h st _ => st.isNone && okE .b ce a x && (match l with
        | none => lo.isNon
        | some y => !lo.isNon && okE .b ce lo y) && (match h with
        | none => hi.isNon
        | some y => !hi.isNon && okE .b ce hi y)
      | _ => false)
    | _ => false)
  | md, ce, .fld a f, e => decide (md ≠ .w) && (match e with
    | .Attribute x y _ => decide (y = g.NM.fld f) && notSuper x && okE .v ce a x
    | _ => false)
  | md, ce, .call f ms, e => decide (md ≠ .w) && (match e with
    | .Call fn as ks _ => ks.isEmpty && isTop ce (g.NM.fn f) fn && g.NM.top f && (g.PR.defs f).isSome && okEs .v ce ms as
    | _ => false)
  | md, ce, .cvar i ms, e => decide (md ≠ .w) && (match e with
    | .Call fn as ks _ => ks.isEmpty && !as.isEmpty && isVar ce i fn && okEs .v ce ms as
    | _ => false)
  | md, ce, .mk c ms, e => decide (md ≠ .w) && (match e with
    | .Call fn as ks _ => ks.isEmpty && isTop ce (g.NM.cls c) fn && !(g.PR.flds c).isEmpty && okEs .v ce ms as
    | _ => false)
  | md, ce, .meth a m ms, e => decide (md ≠ .w) && (match e with
    | .Call fn as ks pos => ks.isEmpty && !as.isEmpty && decide (as.length < 20) && (match fn with
      | .Attribute o y apos => decide (y = g.NM.met m) && (apos.endLine == pos.line) && notSuper o && okE .v ce a o && okEs .v ce ms as
      | _ => false)
    | _ => false)
  | md, ce, .bi b ms, e => decide (md ≠ .w) && (match e with
    | .Call fn as ks _ => ks.isEmpty && (if b = .lrange then isTop ce "list" fn && (match as with
        | [x] => (match x with
          | .Call fn2 as2 ks2 _ => ks2.isEmpty && isTop ce "range" fn2 && as2.length == 1 && glB ce.sc "list" && glB ce.sc "range" && okEs .b ce ms as2
          | _ => false)
        | _ => false) else if b = .sortedset then isTop ce "sorted" fn && (match as with
        | [x] => (match x with
          | .Call fn2 as2 ks2 _ => ks2.isEmpty && isTop ce "set" fn2 && as2.length == 1 && glB ce.sc "sorted" && glB ce.sc "set" && okEs .b ce ms as2
          | _ => false)
        | _ => false) else biOk b && isTop ce (biNm b) fn && !as.isEmpty && okEs .b ce ms as)
    | _ => false)
  | md, ce, .isi a ts, e => decide (md ≠ .w) && (match e with
    | .Call fn as ks _ => ks.isEmpty && isTop ce "isinstance" fn && (match as with
      | [x, t] => notStar x && okE .b ce a x && (match ts with
        | [ty] => okTy g ce.sc ty t || (match t with
          | .Tuple l _ _ => okTys g ce.sc ts l
          | _ => false)
        | _ => !ts.isEmpty && decide (ts.length ≤ 100) && (match t with
          | .Tuple l _ _ => okTys g ce.sc ts l
          | _ => false))
      | _ => false)
    | _ => false)
  | md, ce, .comp e1 t ik src c, e => decide (md ≠ .w) && (match e with
    | .ListComp elt gens scope _ => (match gens with
      | [q] => decide (q.is_async = 0) && notSet q.iter && blkC ce.N ce.sc scope (ownOf ce.N scope t.names) && okT { ce with lam := false, sc := relS scope ce.sc, blk := some scope } t q.target &&
          itF ce ik (fun l => okEs .b ce src l) q.target q.iter &&
          (match q.ifs with
          | [] => isYes c
          | [x] => okE .t { ce with lam := false, sc := relS scope ce.sc, blk := some scope } c x
          | _ => false) &&
          okE .v { ce with lam := false, sc := relS scope ce.sc, blk := some scope } e1 elt
      | _ => false)
    | _ => false)
  | md, ce, .refused f a, e => decide (md ≠ .w) && ce.lam && (match e with
    | .Call fn as ks _ => ks.isEmpty && isTop ce (g.NM.fn f) fn && (g.PR.hand f).isSome && (match as with
      | [x] => (match x with
        | .Lambda ps body scope _ => noPar ps && LamX.lamSB ce.sc scope && okE .v { ce with lam := false, sc := scope, blk := some { scope with names := [] } } a body
        | _ => false)
      | _ => false)
    | _ => false)
def okEs : Md → CE → List E → List Expr → Bool
  | _, _, [], [] => true
  | md, ce, m :: ms, e :: es => notStar e && okE md ce m e && okEs md ce ms es
  | _, _, _, _ => false
end
end
end Mini
end
section
set_option Elab.async false
set_option linter.all false
set_option maxRecDepth 100000
set_option maxHeartbeats 2000000
/-! # Mini: what the checker passes, the rules read -/
namespace Mini
open PySem L2 PySem.Spec PyProof.Rows
structure XOk (g : G) (C : Calls) (EW : XK) (ce : CE) (X : Cx) : Prop where
  bd : Bd g C EW X
  N : X.N = ce.N
  sc : X.env.scope = ce.sc
  calm : X.calm = true
  fnc : ∀ x, ce.fn x = true → X.fn x = true
  lam : ce.lam = true → LamOk g C X
  ty : TyG g g.K X.mg
  fn : ∀ f, g.NM.top f = true → X.mg (g.NM.fn f) = some (.ref (g.AD.f f))
def Res (g : G) (C : Calls) (EW : XK) (X : Cx) (e : Expr) (m : E) : Md → Prop
  | .v => PE X e (tE g C EW m)
  | .b => PE X e (tB g C EW m)
  | .t => PT X e (tT g C EW m)
  | .w => PW X e (tT g C EW m)
def ResA (g : G) (C : Calls) (EW : XK) (X : Cx) (es : List Expr) (ms : List E) : Md → Prop
  | .v => PA X es (tAs g C EW ms) ∧ es.all notStar = true
  | .b => PA X es (tBs g C EW ms) ∧ es.all notStar = true
  | _ => True
def P1 (g : G) (C : Calls) (m : E) : Prop := ∀ md ce X EW e, XOk g C EW ce X → okE g md ce m e = true → Res g C EW X e m md
def P2 (g : G) (C : Calls) (ms : List E) : Prop := (∀ md ce X EW es, XOk g C EW ce X → okEs g md ce ms es = true → ResA g C EW X es ms md) ∧ ∀ m ∈ ms, P1 g C m
section
variable {g : G} {C : Calls} {EW : XK} {X : Cx} {ce : CE} {e : Expr} {m : E}
theorem res_v {md : Md} (h : PE X e (tE g C EW m)) (hw : md ≠ .w) (hp : plainT e = true) : Res g C EW X e m md := by
  cases md with
  | v => exact h
  | b => exact s_B h
  | t => exact s_test h (plainT_ok hp)
  | w => exact absurd rfl hw
theorem isVar_ok (O : XOk g C EW ce X) {i : Nat} (h : isVar ce i e = true) : ∃ x p, e = .Name x p ∧ X.N[i]? = some x ∧ Vis X.env.scope x ∧ (x == ("__debug__" : Str)) = false ∧ (x == ("__classdict__" : Str)) = false := by
  cases e with
  | Name x p =>
    simp only [isVar, Bool.and_eq_true, decide_eq_true_eq] at h
    obtain ⟨⟨h1, h2⟩, h3⟩ := h
    exact ⟨x, p, rfl, by rw [O.N]; exact h1, by rw [O.sc]; exact visB_ok h2, (dbg_ok h3).1, (dbg_ok h3).2⟩
  | _ => cases h
theorem isTop_ok (O : XOk g C EW ce X) {x : Str} (h : isTop ce x e = true) : ∃ p, e = .Name x p ∧ Gl X x ∧ (x == ("__debug__" : Str)) = false := by
  cases e with
  | Name y p =>
    simp only [isTop, Bool.and_eq_true, decide_eq_true_eq] at h
    obtain ⟨⟨rfl, h2⟩, h3⟩ := h
    exact ⟨p, rfl, glB_ok (by rw [O.sc]; exact h2), (dbg_ok h3).1⟩
  | _ => cases h
theorem c_k {d : D} : P1 g C (.k d) := fun md ce X EW e O h => by
  simp only [okE, Bool.and_eq_true, decide_eq_true_eq] at h
  cases e with
  | Constant k j p => exact res_v (s_k h.2) h.1 rfl
  | _ => cases h.2
theorem c_gi {x : Str} {i : Int} : P1 g C (.gi x i) := fun md ce X EW e O h => by
  simp only [okE, Bool.and_eq_true, decide_eq_true_eq] at h
  obtain ⟨p, rfl, hg, hd⟩ := isTop_ok O h.2
  exact res_v (s_gi hg (O.bd.txt.gi x i h.1.2) hd) h.1.1 rfl
theorem c_fn {f : Nat} : P1 g C (.fn f) := fun md ce X EW e O h => by
  simp only [okE, Bool.and_eq_true, decide_eq_true_eq] at h
  obtain ⟨p, rfl, hg, hd⟩ := isTop_ok O h.2
  exact res_v (s_fn hg (O.fn f h.1.2) hd) h.1.1 rfl
theorem c_var {i : Nat} : P1 g C (.var i) := fun md ce X EW e O h => by
  simp only [okE, Bool.and_eq_true, decide_eq_true_eq] at h
  obtain ⟨x, p, rfl, h1, h2, h3, h4⟩ := isVar_ok O h.2
  exact res_v (s_var h1 h2 h3 h4) h.1 rfl
theorem c_bor {i : Nat} : P1 g C (.bor i) := fun md ce X EW e O h => by
  simp only [okE, Bool.and_eq_true, decide_eq_true_eq] at h
  obtain ⟨rfl, h⟩ := h
  obtain ⟨x, p, rfl, h1, h2, h3, h4⟩ := isVar_ok O h
  exact s_bor h1 h2 h3 h4
theorem c_tup {ms : List E} (ih : P2 g C ms) : P1 g C (.tup ms) := fun md ce X EW e O h => by
  simp only [okE, Bool.and_eq_true, decide_eq_true_eq] at h
  cases e with
  | Tuple l k p =>
    simp only [Bool.and_eq_true, decide_eq_true_eq] at h
    exact res_v (s_tup (ih.1 .v ce X EW l O h.2.2).1 h.2.1) h.1 rfl
  | _ => cases h.2
theorem c_lst {ms : List E} (ih : P2 g C ms) : P1 g C (.lst ms) := fun md ce X EW e O h => by
  simp only [okE, Bool.and_eq_true, decide_eq_true_eq] at h
  cases e with
  | List l p =>
    simp only [Bool.and_eq_true, decide_eq_true_eq] at h
    exact res_v (s_lst (ih.1 .v ce X EW l O h.2.2).1 h.2.1) h.1 rfl
  | _ => cases h.2
theorem c_edic : P1 g C .edic := fun md ce X EW e O h => by
  simp only [okE, Bool.and_eq_true, decide_eq_true_eq] at h
  cases e with
  | Dict ks vs p =>
    simp only [Bool.and_eq_true, List.isEmpty_iff] at h
    obtain ⟨hw, rfl, rfl⟩ := h
    exact res_v s_edic hw rfl
  | _ => cases h.2
theorem c_bin {o : BOp} {a b : E} (iha : P1 g C a) (ihb : P1 g C b) : P1 g C (.bin o a b) := fun md ce X EW e O h => by
  simp only [okE, Bool.and_eq_true, decide_eq_true_eq] at h
  cases e with
  | BinOp x op y p =>
    simp only [Bool.and_eq_true] at h
    obtain ⟨hw, ⟨ho, hx⟩, hy⟩ := h
    rw [bopIs_ok ho]
    exact res_v (s_bin (iha .b ce X EW x O hx) (ihb .b ce X EW y O hy)) hw rfl
  | _ => cases h.2
theorem c_neg {a : E} : P1 g C (.neg a) := fun md ce X EW e O h => by
  simp only [okE, Bool.and_eq_true, decide_eq_true_eq] at h
  obtain ⟨hm, h⟩ := h
  have key : PE X e (tE g C EW (.neg a)) := by
    cases e with
    | UnaryOp op x p =>
      cases op with
      | USub =>
        cases a with
        | k d =>
          cases d with
          | int i =>
            cases x with
            | Constant k j q =>
              cases k with
              | int i' =>
                have : i = i' := by simpa [isNeg, isK, okK] using h
                subst this
                exact s_neg
              | _ => cases h
            | _ => cases h
          | _ => cases h
        | _ => cases h
      | _ => cases h
    | _ => cases h
  rcases hm with rfl | rfl
  · exact key
  · exact s_B key
theorem c_cmp {o : COp} {a b : E} (iha : P1 g C a) (ihb : P1 g C b) : P1 g C (.cmp o a b) := fun md ce X EW e O h => by
  simp only [okE, Bool.and_eq_true, decide_eq_true_eq] at h
  cases e with
  | Compare x ops ys p =>
    match ops, ys, h with
    | [op], [y], h =>
      simp only [Bool.and_eq_true, Bool.not_eq_true'] at h
      obtain ⟨hw, ⟨⟨ho, hx⟩, hy⟩, hm⟩ := h
      obtain rfl := copIs_ok ho
      have pa := iha .b ce X EW x O hx
      have pb := ihb .b ce X EW y O hy
      cases md with
      | v => exact s_cmp O.bd.units pa pb hm
      | b => exact s_B (s_cmp O.bd.units pa pb hm)
      | t => exact st_cmp O.bd.units pa pb hm
      | w => exact absurd rfl hw
  | _ => cases h.2
theorem c_chn {o o' : COp} {a b c : E} (iha : P1 g C a) (ihb : P1 g C b) (ihc : P1 g C c) : P1 g C (.chn o o' a b c) := fun md ce X EW e O h => by
  simp only [okE, Bool.and_eq_true, decide_eq_true_eq] at h
  cases e with
  | Compare x ops ys p =>
    match ops, ys, h with
    | [op, op'], [y, z], h =>
      simp only [Bool.and_eq_true, Bool.not_eq_true'] at h
      obtain ⟨hw, ⟨⟨⟨⟨ho, ho'⟩, hx⟩, hy⟩, hz⟩, hm⟩ := h
      obtain rfl := copIs_ok ho
      obtain rfl := copIs_ok ho'
      have pa := iha .b ce X EW x O hx
      have pb := ihb .b ce X EW y O hy
      have pc := ihc .b ce X EW z O hz
      cases md with
      | v => exact s_chn O.bd.units pa pb pc hm
      | b => exact s_B (s_chn O.bd.units pa pb pc hm)
      | t => exact st_chn O.bd.units pa pb pc hm
      | w => exact absurd rfl hw
  | _ => cases h.2
theorem c_not {a : E} (iha : P1 g C a) : P1 g C (.not a) := fun md ce X EW e O h => by
  simp only [okE, Bool.and_eq_true, decide_eq_true_eq] at h
  cases e with
  | UnaryOp op x p =>
    cases op with
    | Not =>
      obtain ⟨hw, h⟩ := h
      cases md with
      | v => exact s_not (iha .v ce X EW x O h)
      | b => exact s_B (s_not (iha .v ce X EW x O h))
      | t => exact st_not (iha .t ce X EW x O h)
      | w => exact absurd rfl hw
    | _ => cases h.2
  | _ => cases h.2
theorem c_tru {a : E} (iha : P1 g C a) : P1 g C (.tru a) := fun md ce X EW e O h => by
  simp only [okE, Bool.and_eq_true, decide_eq_true_eq] at h
  obtain ⟨⟨rfl, hp⟩, h⟩ := h
  exact st_tru (iha .b ce X EW e O h) (plainT_ok hp)
theorem c_ite {c a b : E} (ihc : P1 g C c) (iha : P1 g C a) (ihb : P1 g C b) : P1 g C (.ite c a b) := fun md ce X EW e O h => by
  simp only [okE, Bool.and_eq_true, decide_eq_true_eq] at h
  obtain ⟨hm, h⟩ := h
  have key : PE X e (tE g C EW (.ite c a b)) := by
    cases e with
    | IfExp z x y p =>
      simp only [Bool.and_eq_true] at h
      exact s_ite (ihc .t ce X EW z O h.1.1) (iha .v ce X EW x O h.1.2) (ihb .v ce X EW y O h.2)
    | _ => cases h
  rcases hm with rfl | rfl
  · exact key
  · exact s_B key
theorem c_ix {a i : E} (iha : P1 g C a) (ihi : P1 g C i) : P1 g C (.ix a i) := fun md ce X EW e O h => by
  simp only [okE, Bool.and_eq_true, decide_eq_true_eq] at h
  cases e with
  | Subscript x y p =>
    simp only [Bool.and_eq_true] at h
    obtain ⟨hw, ⟨hs, hx⟩, hy⟩ := h
    exact res_v (s_ix O.bd.K (iha .b ce X EW x O hx) (ihi .b ce X EW y O hy) (plainIx hs)) hw rfl
  | _ => cases h.2
theorem isNon_ok {m : E} (h : m.isNon = true) : m = .k .non := by
  cases m with
  | k d =>
    cases d with
    | non => rfl
    | _ => cases h
  | _ => cases h
theorem c_sl {a lo hi : E} (iha : P1 g C a) (ihl : P1 g C lo) (ihh : P1 g C hi) : P1 g C (.sl a lo hi) := fun md ce X EW e O h => by
  simp only [okE, Bool.and_eq_true, decide_eq_true_eq] at h
  cases e with
  | Subscript x s p =>
    cases s with
    | Slice l hh st q =>
      simp only [Bool.and_eq_true] at h
      obtain ⟨hw, ⟨⟨hst, hx⟩, hl⟩, hh2⟩ := h
      have est : st = none := by simpa using hst
      subst est
      have pl : PartOk g C EW X l lo ∧ (l ≠ none → lo.isNon = false) := by
        cases l with
        | none => rw [isNon_ok hl]; exact ⟨.no, fun h => absurd rfl h⟩
        | some y =>
          simp only [Bool.and_eq_true, Bool.not_eq_true'] at hl
          exact ⟨.at (ihl .b ce X EW y O hl.2), fun _ => hl.1⟩
      have ph : PartOk g C EW X hh hi ∧ (hh ≠ none → hi.isNon = false) := by
        cases hh with
        | none => rw [isNon_ok hh2]; exact ⟨.no, fun h => absurd rfl h⟩
        | some y =>
          simp only [Bool.and_eq_true, Bool.not_eq_true'] at hh2
          exact ⟨.at (ihh .b ce X EW y O hh2.2), fun _ => hh2.1⟩
      exact res_v (s_sl (iha .b ce X EW x O hx) pl.1 ph.1 pl.2 ph.2) hw rfl
    | _ => cases h.2
  | _ => cases h.2
theorem c_fld {a : E} {f : Nat} (iha : P1 g C a) : P1 g C (.fld a f) := fun md ce X EW e O h => by
  simp only [okE, Bool.and_eq_true, decide_eq_true_eq] at h
  cases e with
  | Attribute x y p =>
    simp only [Bool.and_eq_true, decide_eq_true_eq] at h
    obtain ⟨hw, ⟨rfl, hs⟩, hx⟩ := h
    exact res_v (s_fld O.bd.txt O.bd.K (iha .v ce X EW x O hx) (notSuper_ok hs)) hw rfl
  | _ => cases h.2
end
end Mini
end
section
set_option Elab.async false
set_option linter.all false
set_option maxRecDepth 100000
set_option maxHeartbeats 2000000
/-! # Mini: what the checker passes, the rules read (2) -/
namespace Mini
open PySem L2 PySem.Spec PyProof.Rows
section
variable {g : G} {C : Calls} {EW : XK} {X : Cx} {ce : CE} {e : Expr} {m : E}
theorem md_cases {md : Md} (h : ¬(md = .t ∨ md = .w)) : md = .v ∨ md = .b := by
  cases md with
  | v => exact .inl rfl
  | b => exact .inr rfl
  | t => exact absurd (.inl rfl) h
  | w => exact absurd (.inr rfl) h
theorem c_and {a b : E} (iha : P1 g C a) (ihb : P1 g C b) : P1 g C (.and a b) := fun md ce X EW e O h => by
  simp only [okE] at h
  cases e with
  | BoolOp op l p =>
    have key : ∃ x y r, op = .And ∧ l = x :: y :: r ∧ (if md = .t ∨ md = .w then okE g .t ce a x = true ∧ (PT X x (tT g C EW a) → PW X (.BoolOp .And (y :: r) p) (tT g C EW b)) else okE g .v ce a x = true ∧ (PE X (.BoolOp .And (y :: r) p) (tE g C EW b))) := by
      match op, l, h with
      | .And, [x, y], h =>
        refine ⟨x, y, [], rfl, rfl, ?_⟩
        by_cases hm : md = .t ∨ md = .w
        · rw [if_pos hm]
          simp only [if_pos hm, Bool.and_eq_true] at h
          exact ⟨h.1, fun _ => pw_and1 (ihb .t ce X EW y O h.2)⟩
        · rw [if_neg hm]
          simp only [if_neg hm, Bool.and_eq_true] at h
          exact ⟨h.1, pe_one (ihb .v ce X EW y O h.2)⟩
      | .And, x :: y :: z :: r, h =>
        refine ⟨x, y, z :: r, rfl, rfl, ?_⟩
        by_cases hm : md = .t ∨ md = .w
        · rw [if_pos hm]
          simp only [if_pos hm, Bool.and_eq_true] at h
          exact ⟨h.1, fun _ => ihb .w ce X EW _ O h.2⟩
        · rw [if_neg hm]
          simp only [if_neg hm, Bool.and_eq_true] at h
          exact ⟨h.1, ihb .v ce X EW _ O h.2⟩
    obtain ⟨x, y, r, rfl, rfl, hk⟩ := key
    by_cases hm : md = .t ∨ md = .w
    · rw [if_pos hm] at hk
      have pa := iha .t ce X EW x O hk.1
      have pw := st_and pa (hk.2 pa)
      rcases hm with rfl | rfl
      · exact pw.pt
      · exact pw
    · rw [if_neg hm] at hk
      have pe := s_and (op := .And) (iha .v ce X EW x O hk.1) hk.2
      rcases md_cases hm with rfl | rfl
      · exact pe
      · exact s_B pe
  | _ => cases h
theorem c_or {a b : E} (iha : P1 g C a) (ihb : P1 g C b) : P1 g C (.or a b) := fun md ce X EW e O h => by
  simp only [okE] at h
  cases e with
  | BoolOp op l p =>
    have key : ∃ x y r, op = .Or ∧ l = x :: y :: r ∧ (if md = .t ∨ md = .w then okE g .t ce a x = true ∧ (PT X x (tT g C EW a) → PW X (.BoolOp .Or (y :: r) p) (tT g C EW b)) else okE g .v ce a x = true ∧ (PE X (.BoolOp .Or (y :: r) p) (tE g C EW b))) := by
      match op, l, h with
      | .Or, [x, y], h =>
        refine ⟨x, y, [], rfl, rfl, ?_⟩
        by_cases hm : md = .t ∨ md = .w
        · rw [if_pos hm]
          simp only [if_pos hm, Bool.and_eq_true] at h
          exact ⟨h.1, fun _ => pw_or1 (ihb .t ce X EW y O h.2)⟩
        · rw [if_neg hm]
          simp only [if_neg hm, Bool.and_eq_true] at h
          exact ⟨h.1, pe_one (ihb .v ce X EW y O h.2)⟩
      | .Or, x :: y :: z :: r, h =>
        refine ⟨x, y, z :: r, rfl, rfl, ?_⟩
        by_cases hm : md = .t ∨ md = .w
        · rw [if_pos hm]
          simp only [if_pos hm, Bool.and_eq_true] at h
          exact ⟨h.1, fun _ => ihb .w ce X EW _ O h.2⟩
        · rw [if_neg hm]
          simp only [if_neg hm, Bool.and_eq_true] at h
          exact ⟨h.1, ihb .v ce X EW _ O h.2⟩
    obtain ⟨x, y, r, rfl, rfl, hk⟩ := key
    by_cases hm : md = .t ∨ md = .w
    · rw [if_pos hm] at hk
      have pa := iha .t ce X EW x O hk.1
      have pw := st_or pa (hk.2 pa)
      rcases hm with rfl | rfl
      · exact pw.pt
      · exact pw
    · rw [if_neg hm] at hk
      have pe := s_or (iha .v ce X EW x O hk.1) hk.2
      rcases md_cases hm with rfl | rfl
      · exact pe
      · exact s_B pe
  | _ => cases h
theorem c_nil : P2 g C [] := by
  refine ⟨fun md ce X EW es O h => ?_, fun _ h => nomatch h⟩
  cases es with
  | nil =>
    cases md with
    | v => exact ⟨sa_nil, rfl⟩
    | b => exact ⟨sb_nil, rfl⟩
    | t => trivial
    | w => trivial
  | cons e es => simp [okEs] at h
theorem c_cons {m : E} {ms : List E} (ih : P1 g C m) (ihs : P2 g C ms) : P2 g C (m :: ms) := by
  refine ⟨fun md ce X EW es O h => ?_, fun m' h => (List.mem_cons.mp h).elim (fun e => e ▸ ih) (ihs.2 m')⟩
  cases es with
  | nil => simp [okEs] at h
  | cons e es =>
    simp only [okEs, Bool.and_eq_true] at h
    obtain ⟨⟨hs, h1⟩, h2⟩ := h
    have q1 := ih md ce X EW e O h1
    have q2 := ihs.1 md ce X EW es O h2
    cases md with
    | v => exact ⟨sa_cons q1 q2.1 (star_ok hs), by simp [hs, q2.2]⟩
    | b => exact ⟨sb_cons q1 q2.1 (star_ok hs), by simp [hs, q2.2]⟩
    | t => trivial
    | w => trivial
theorem c_call {f : Nat} {ms : List E} (ih : P2 g C ms) : P1 g C (.call f ms) := fun md ce X EW e O h => by
  simp only [okE, Bool.and_eq_true, decide_eq_true_eq] at h
  cases e with
  | Call fn as ks p =>
    simp only [Bool.and_eq_true, List.isEmpty_iff] at h
    obtain ⟨hw, ⟨⟨⟨rfl, hf⟩, ht⟩, hd⟩, ha⟩ := h
    obtain ⟨q, rfl, hg, hdb⟩ := isTop_ok O hf
    obtain ⟨pa, hst⟩ := ih.1 .v ce X EW as O ha
    refine res_v ?_ hw rfl
    cases as with
    | nil =>
      have e : ms = [] := by
        cases ms with
        | nil => rfl
        | cons m ms => simp [okEs] at ha
      subst e
      exact s_callf0 O.bd hd hg (O.fn f ht) hdb
    | cons a as =>
      have h1 : notStar a = true ∧ as.all notStar = true := by simpa using hst
      exact s_callf O.bd hd hg (O.fn f ht) hdb pa (star_ok h1.1) (star_any h1.2)
  | _ => cases h.2
theorem c_cvar {i : Nat} {ms : List E} (ih : P2 g C ms) : P1 g C (.cvar i ms) := fun md ce X EW e O h => by
  simp only [okE, Bool.and_eq_true, decide_eq_true_eq] at h
  cases e with
  | Call fn as ks p =>
    simp only [Bool.and_eq_true, List.isEmpty_iff, Bool.not_eq_true'] at h
    obtain ⟨hw, ⟨⟨rfl, hne⟩, hv⟩, ha⟩ := h
    obtain ⟨x, q, rfl, hN, hvis, hdb, hcd⟩ := isVar_ok O hv
    obtain ⟨pa, hst⟩ := ih.1 .v ce X EW as O ha
    cases as with
    | nil => cases hne
    | cons a as =>
      have h1 : notStar a = true ∧ as.all notStar = true := by simpa using hst
      exact res_v (s_cvar O.bd hN hvis pa hdb hcd (star_ok h1.1) (star_any h1.2)) hw rfl
  | _ => cases h.2
theorem c_mk {c : Nat} {ms : List E} (ih : P2 g C ms) : P1 g C (.mk c ms) := fun md ce X EW e O h => by
  simp only [okE, Bool.and_eq_true, decide_eq_true_eq] at h
  cases e with
  | Call fn as ks p =>
    simp only [Bool.and_eq_true, List.isEmpty_iff, Bool.not_eq_true'] at h
    obtain ⟨hw, ⟨⟨rfl, hf⟩, hc⟩, ha⟩ := h
    have hc : g.PR.flds c ≠ [] := fun e => by simp [e] at hc
    obtain ⟨q, rfl, hg, hdb⟩ := isTop_ok O hf
    obtain ⟨pa, hst⟩ := ih.1 .v ce X EW as O ha
    refine res_v ?_ hw rfl
    cases as with
    | nil =>
      have e : ms = [] := by
        cases ms with
        | nil => rfl
        | cons m ms => simp [okEs] at ha
      subst e
      exact s_mk0 O.bd hc hg (O.ty.nam c hc) hdb
    | cons a as =>
      have h1 : notStar a = true ∧ as.all notStar = true := by simpa using hst
      exact s_mk O.bd hc hg (O.ty.nam c hc) hdb pa (star_ok h1.1) (star_any h1.2)
  | _ => cases h.2
theorem c_meth {a : E} {m : Nat} {ms : List E} (iha : P1 g C a) (ih : P2 g C ms) : P1 g C (.meth a m ms) := fun md ce X EW e O h => by
  simp only [okE, Bool.and_eq_true, decide_eq_true_eq] at h
  cases e with
  | Call fn as ks p =>
    simp only [Bool.and_eq_true, List.isEmpty_iff, Bool.not_eq_true', decide_eq_true_eq] at h
    obtain ⟨hw, ⟨⟨rfl, hne⟩, hlen⟩, h⟩ := h
    cases fn with
    | Attribute o y apos =>
      simp only [Bool.and_eq_true, decide_eq_true_eq] at h
      obtain ⟨⟨⟨⟨rfl, hline⟩, hsup⟩, ha⟩, hms⟩ := h
      have pa := iha .v ce X EW o O ha
      obtain ⟨pas, hst⟩ := ih.1 .v ce X EW as O hms
      refine res_v ?_ hw rfl
      cases as with
      | nil => cases hne
      | cons e es =>
        have h1 : notStar e = true ∧ es.all notStar = true := by simpa using hst
        exact s_meth O.bd pa pas (star_ok h1.1) (star_any h1.2) (meth_eval hsup hline (by simpa using hst) hlen)
    | _ => cases h
  | _ => cases h.2
theorem bi_pe (O : XOk g C EW ce X) {b : Bi} (hb : biOk b = true) {a : Expr} {as : List Expr} {ms : List E} {p pos : Pos} (hg : Gl X (biNm b)) (ha : PA X (a :: as) (tBs g C EW ms)) (he : starEach (a :: as) X.env = (false, eval a X.env) :: starEach as X.env) (hpl : (backTo pos (starEach as X.env)).any (·.1) = false) :
    PE X (.Call (.Name (biNm b) p) (a :: as) [] pos) (tE g C EW (.bi b ms)) := by
  have u : X.A.units + 64 < cLine := by have := O.bd.units; omega
  have mgn : ∀ x : Str, x ∈ (["len", "int", "tuple", "list", "sorted", "all", "any", "sum", "max", "min", "range", "enumerate", "zip", "isinstance", "repr", "str", "set", "bool", "dict"] : List Str) → X.mg x = none := O.bd.txt.blt
  cases b <;> simp only [biOk] at hb <;> try cases hb
  · exact s_call (r := rBi g .len) (pe_callB (id := "len") (bi_len O.bd.K) hg (mgn _ (by simp [biNm])) (show bootBuiltins ("len" : Str) = _ by decide +kernel) ha (by decide) (by decide) he hpl)
  · exact s_call (r := rBi g .int) (pe_callTy (T := "int") bi_int hg (mgn _ (by simp [biNm])) (show bootBuiltins ("int" : Str) = _ by decide +kernel) ha (by decide) (by decide) he hpl)
  · exact s_call (r := rBi g .tuple) (pe_callTy (T := "tuple") bi_tuple hg (mgn _ (by simp [biNm])) (show bootBuiltins ("tuple" : Str) = _ by decide +kernel) ha (by decide) (by decide) he hpl)
  · exact s_call (r := rBi g .list) (pe_callTy (T := "list") bi_list hg (mgn _ (by simp [biNm])) (show bootBuiltins ("list" : Str) = _ by decide +kernel) ha (by decide) (by decide) he hpl)
  · exact s_call (r := rBi g .sorted) (pe_callB (id := "sorted") (bi_sorted u) hg (mgn _ (by simp [biNm])) (show bootBuiltins ("sorted" : Str) = _ by decide +kernel) ha (by decide) (by decide) he hpl)
  · exact s_call (r := rBi g .all) (pe_callB (id := "all") (bi_all O.calm) hg (mgn _ (by simp [biNm])) (show bootBuiltins ("all" : Str) = _ by decide +kernel) ha (by decide) (by decide) he hpl)
  · exact s_call (r := rBi g .any) (pe_callB (id := "any") (bi_any O.calm) hg (mgn _ (by simp [biNm])) (show bootBuiltins ("any" : Str) = _ by decide +kernel) ha (by decide) (by decide) he hpl)
  · exact s_call (r := rBi g .sum) (pe_callB (id := "sum") (bi_sum O.calm) hg (mgn _ (by simp [biNm])) (show bootBuiltins ("sum" : Str) = _ by decide +kernel) ha (by decide) (by decide) he hpl)
  · exact s_call (r := rBi g .max1) (pe_callB (id := "max") (bi_max1 O.calm) hg (mgn _ (by simp [biNm])) (show bootBuiltins ("max" : Str) = _ by decide +kernel) ha (by decide) (by decide) he hpl)
  · exact s_call (r := rBi g .min1) (pe_callB (id := "min") (bi_min1 O.calm) hg (mgn _ (by simp [biNm])) (show bootBuiltins ("min" : Str) = _ by decide +kernel) ha (by decide) (by decide) he hpl)
  · exact s_call (r := rBi g .max2) (pe_callB (id := "max") (bi_max2 O.calm) hg (mgn _ (by simp [biNm])) (show bootBuiltins ("max" : Str) = _ by decide +kernel) ha (by decide) (by decide) he hpl)
  · exact s_call (r := rBi g .min2) (pe_callB (id := "min") (bi_min2 O.calm) hg (mgn _ (by simp [biNm])) (show bootBuiltins ("min" : Str) = _ by decide +kernel) ha (by decide) (by decide) he hpl)
  · exact s_call (r := rBi g .repr) (pe_callB (id := "repr") (bi_repr O.bd.guards u) hg (mgn _ (by simp [biNm])) (show bootBuiltins ("repr" : Str) = _ by decide +kernel) ha (by decide) (by decide) he hpl)
end
end Mini
end
section
set_option Elab.async false
set_option linter.all false
set_option maxRecDepth 100000
set_option maxHeartbeats 2000000
/-! # Mini: what the checker passes, the rules read (3) -/
namespace Mini
open PySem L2 PySem.Spec PyProof.Rows
section
variable {g : G} {C : Calls} {EW : XK} {X : Cx} {ce : CE} {e : Expr} {m : E}
theorem okEs_len {md : Md} : ∀ {ms : List E} {es : List Expr}, okEs g md ce ms es = true → ms.length = es.length := by
  intro ms
  induction ms with
  | nil =>
    intro es h
    cases es with
    | nil => rfl
    | cons e es => simp [okEs] at h
  | cons m ms ih =>
    intro es h
    cases es with
    | nil => simp [okEs] at h
    | cons e es =>
      simp only [okEs, Bool.and_eq_true] at h
      rw [List.length_cons, List.length_cons, ih h.2]
theorem c_bi {b : Bi} {ms : List E} (ih : P2 g C ms) : P1 g C (.bi b ms) := fun md ce X EW e O h => by
  simp only [okE, Bool.and_eq_true, decide_eq_true_eq] at h
  cases e with
  | Call fn as ks p =>
    simp only [Bool.and_eq_true, List.isEmpty_iff] at h
    obtain ⟨hw, rfl, h⟩ := h
    by_cases hb : b = .lrange
    · subst hb
      simp only [if_true] at h
      simp only [Bool.and_eq_true] at h
      obtain ⟨hf, h⟩ := h
      obtain ⟨q, rfl, hg, hdb⟩ := isTop_ok O hf
      match as, h with
      | [x], h =>
        cases x with
        | Call fn2 as2 ks2 p2 =>
          simp only [Bool.and_eq_true, List.isEmpty_iff, beq_iff_eq] at h
          obtain ⟨⟨⟨⟨⟨rfl, hf2⟩, hl⟩, _⟩, _⟩, ha⟩ := h
          obtain ⟨q2, rfl, hg2, hdb2⟩ := isTop_ok O hf2
          match as2, hl, ha with
          | [y], _, ha =>
            match ms, okEs_len ha, ha with
            | [m], _, ha =>
              simp only [okEs, Bool.and_eq_true] at ha
              exact res_v (s_lrange O.bd O.calm hg hg2 (ih.2 m List.mem_cons_self .b ce X EW y O ha.1.2) (star_ok ha.1.1)) hw rfl
        | _ => cases h
    by_cases hb2 : b = .sortedset
    · subst hb2
      simp only [if_neg hb, if_true] at h
      simp only [Bool.and_eq_true] at h
      obtain ⟨hf, h⟩ := h
      obtain ⟨q, rfl, hg, hdb⟩ := isTop_ok O hf
      match as, h with
      | [x], h =>
        cases x with
        | Call fn2 as2 ks2 p2 =>
          simp only [Bool.and_eq_true, List.isEmpty_iff, beq_iff_eq] at h
          obtain ⟨⟨⟨⟨⟨rfl, hf2⟩, hl⟩, _⟩, _⟩, ha⟩ := h
          obtain ⟨q2, rfl, hg2, hdb2⟩ := isTop_ok O hf2
          match as2, hl, ha with
          | [y], _, ha =>
            match ms, okEs_len ha, ha with
            | [m], _, ha =>
              simp only [okEs, Bool.and_eq_true] at ha
              exact res_v (s_sortedset O.bd O.calm hg hg2 (ih.2 m List.mem_cons_self .b ce X EW y O ha.1.2) (star_ok ha.1.1)) hw rfl
        | _ => cases h
    · simp only [if_neg hb, if_neg hb2, Bool.and_eq_true, Bool.not_eq_true'] at h
      obtain ⟨⟨⟨hbo, hf⟩, hne⟩, ha⟩ := h
      obtain ⟨q, rfl, hg, hdb⟩ := isTop_ok O hf
      obtain ⟨pa, hst⟩ := ih.1 .b ce X EW as O ha
      cases as with
      | nil => cases hne
      | cons a as =>
        have h1 : notStar a = true ∧ as.all notStar = true := by simpa using hst
        exact res_v (bi_pe O hbo hg pa (star_ok h1.1) (star_any h1.2)) hw rfl
  | _ => cases h.2
theorem c_isi {a : E} {ts : List Ty} (iha : P1 g C a) : P1 g C (.isi a ts) := fun md ce X EW e O h => by
  simp only [okE, Bool.and_eq_true, decide_eq_true_eq] at h
  cases e with
  | Call fn as ks p =>
    simp only [Bool.and_eq_true, List.isEmpty_iff] at h
    obtain ⟨hw, ⟨rfl, hf⟩, h⟩ := h
    obtain ⟨q, rfl, hg, hdb⟩ := isTop_ok O hf
    match as, h with
    | [x, t], h =>
      simp only [Bool.and_eq_true] at h
      obtain ⟨⟨hsx, hx⟩, ht⟩ := h
      have pa := iha .b ce X EW x O hx
      refine res_v ?_ hw rfl
      have tup : ∀ ts', ts' ≠ [] → ts'.length ≤ 100 → (match t with | .Tuple l _ _ => okTys g ce.sc ts' l | _ => false) = true → PE X (.Call (.Name "isinstance" q) [x, t] [] p) (tE g C EW (.isi a ts')) := fun ts' hne hl h => by
        cases t with
        | Tuple l k tp => exact s_isiT O.bd O.ty (by rw [O.sc]; exact h) hne hl hg pa (star_ok hsx)
        | _ => cases h
      match ts, ht with
      | [ty], ht =>
        simp only [Bool.or_eq_true] at ht
        rcases ht with ht | ht
        · have hst : notStar t = true := by
            cases t with
            | Name _ _ => rfl
            | _ => cases ht
          refine s_isi1 O.bd O.ty (by rw [O.sc]; exact ht) hg pa (star_ok hsx) (star_ok hst) (star_any (by simp [hst]))
        · exact tup [ty] (by simp) (by simp) ht
      | [], ht => simp at ht
      | t1 :: t2 :: tr, ht =>
        simp only [Bool.and_eq_true, decide_eq_true_eq] at ht
        exact tup _ (by simp) ht.1.2 ht.2
  | _ => cases h.2
/-! ### targets, walks -/
theorem tgt_ok : ∀ (t : T) {X : Cx} {ce : CE} {EW : XK} {e : Expr}, XOk g C EW ce X → okT ce t e = true → PG X e (tG g t) ∧ notStar e = true := by
  intro t
  refine T.rec (motive_1 := fun t => ∀ {X : Cx} {ce : CE} {EW : XK} {e : Expr}, XOk g C EW ce X → okT ce t e = true → PG X e (tG g t) ∧ notStar e = true) (motive_2 := fun ts => ∀ {X : Cx} {ce : CE} {EW : XK} {es : List Expr}, XOk g C EW ce X → okT.okTs ce ts es = true → PGs X es (tGs g ts)) ?_ ?_ ?_ ?_ ?_ ?_ t
  · intro i X ce EW e O h
    cases e with
    | Name x p =>
      simp only [okT, Bool.and_eq_true, decide_eq_true_eq, Bool.or_eq_true, beq_iff_eq] at h
      obtain ⟨⟨h1, h2⟩, h3⟩ := h
      refine ⟨g_nm O.bd.nodup (by rw [O.N]; exact h1) (by rw [O.sc]; exact locB_ok h2) ?_, rfl⟩
      rcases h3 with h3 | h3
      · exact .inl (O.fnc x h3)
      · exact .inr (by rw [O.sc]; exact h3)
    | _ => simp [okT] at h
  · intro i X ce EW e O h
    simp [okT] at h
  · intro i f X ce EW e O h
    simp [okT] at h
  · intro ts ih X ce EW e O h
    cases e with
    | Tuple es k p =>
      simp only [okT, Bool.and_eq_true, decide_eq_true_eq] at h
      obtain ⟨⟨h1, h2⟩, h3⟩ := h
      obtain ⟨l1, l2⟩ := assignL (env := X.env) h2
      exact ⟨g_tup O.calm (ih O h3) (by rw [l1]; exact h1) l2, rfl⟩
    | _ => simp [okT] at h
  · intro X ce EW es O h
    cases es with
    | nil => exact gs_nil
    | cons e es => simp [okT.okTs] at h
  · intro t ts iht ihs X ce EW es O h
    cases es with
    | nil => simp [okT.okTs] at h
    | cons e es =>
      simp only [okT.okTs, Bool.and_eq_true] at h
      obtain ⟨q1, q2⟩ := iht O h.1
      exact gs_cons q1 (ihs O h.2) (assignC q2)
def Md.bor : Md → Bool
  | .b => true
  | _ => false
theorem it_ok {md : Md} (hmd : md = .v ∨ md = .b) (O : XOk g C EW ce X) {ik : ItK} {src : List E} {tg iter : Expr} (ih : P2 g C src) (h : itF ce ik (fun l => okEs g md ce src l) tg iter = true) : PI X tg iter (tIt g C EW md.bor ik src) ∧ notSet iter = true := by
  have pas : ∀ {es : List Expr}, okEs g md ce src es = true → PA X es (tXs g C EW md.bor src) ∧ es.all notStar = true := fun {es} h => by
    rcases hmd with rfl | rfl
    · exact ih.1 .v ce X EW es O h
    · exact ih.1 .b ce X EW es O h
  have mgn : ∀ x : Str, x ∈ (["len", "int", "tuple", "list", "sorted", "all", "any", "sum", "max", "min", "range", "enumerate", "zip", "isinstance", "repr", "str", "set", "bool", "dict"] : List Str) → X.mg x = none := O.bd.txt.blt
  cases ik with
  | seq =>
    simp only [itF, Bool.and_eq_true] at h
    refine ⟨?_, h.2⟩
    match src, okEs_len h.1, h with
    | [m], _, h =>
      refine i_seq ?_
      have h1 := h.1
      simp only [okEs, Bool.and_eq_true] at h1
      have q := ih.2 m List.mem_cons_self md ce X EW iter O h1.1.2
      rcases hmd with rfl | rfl
      · exact q
      · exact q
  | rng =>
    simp only [itF] at h
    cases iter with
    | Call fn as ks p =>
      simp only [Bool.and_eq_true, List.isEmpty_iff, beq_iff_eq] at h
      obtain ⟨⟨⟨rfl, hf⟩, hl⟩, ha⟩ := h
      obtain ⟨q, rfl, hg, hdb⟩ := isTop_ok O hf
      obtain ⟨pa, hst⟩ := pas ha
      match as, src, hl, okEs_len ha, pa, hst with
      | [x], [m], _, _, pa, hst =>
        have h1 : notStar x = true := by simpa using hst
        exact ⟨i_rng hg (mgn _ (by simp)) pa (star_ok h1), rfl⟩
    | _ => cases h
  | rng2 =>
    simp only [itF] at h
    cases iter with
    | Call fn as ks p =>
      simp only [Bool.and_eq_true, List.isEmpty_iff, beq_iff_eq] at h
      obtain ⟨⟨⟨rfl, hf⟩, hl⟩, ha⟩ := h
      obtain ⟨q, rfl, hg, hdb⟩ := isTop_ok O hf
      obtain ⟨pa, hst⟩ := pas ha
      match as, src, hl, okEs_len ha, pa, hst with
      | [x, y], [m, m'], _, _, pa, hst =>
        have h1 : notStar x = true ∧ notStar y = true := by simpa using hst
        exact ⟨i_rng2 hg (mgn _ (by simp)) pa (by rw [star_ok h1.1, star_ok h1.2]; rfl) (star_ok h1.2), rfl⟩
    | _ => cases h
  | enum =>
    simp only [itF] at h
    cases iter with
    | Call fn as ks p =>
      simp only [Bool.and_eq_true, List.isEmpty_iff, beq_iff_eq] at h
      obtain ⟨⟨⟨⟨rfl, hf⟩, hl⟩, ha⟩, ht⟩ := h
      obtain ⟨q, rfl, hg, hdb⟩ := isTop_ok O hf
      obtain ⟨pa, hst⟩ := pas ha
      cases tg with
      | Tuple l k tp =>
        match as, src, hl, okEs_len ha, pa, hst with
        | [x], [m], _, _, pa, hst =>
          have h1 : notStar x = true := by simpa using hst
          exact ⟨i_enum hg (mgn _ (by simp)) pa (star_ok h1), rfl⟩
      | _ => cases ht
    | _ => cases h
  | zip =>
    simp only [itF] at h
    cases iter with
    | Call fn as ks p =>
      simp only [Bool.and_eq_true, List.isEmpty_iff, beq_iff_eq] at h
      obtain ⟨⟨⟨⟨rfl, hf⟩, hl⟩, ha⟩, ht⟩ := h
      obtain ⟨q, rfl, hg, hdb⟩ := isTop_ok O hf
      obtain ⟨pa, hst⟩ := pas ha
      cases tg with
      | Tuple l k tp =>
        match as, src, hl, okEs_len ha, pa, hst with
        | [x, y], [m, m'], _, _, pa, hst =>
          have h1 : notStar x = true ∧ notStar y = true := by simpa using hst
          exact ⟨i_zip hg (mgn _ (by simp)) pa (star_ok h1.1) (star_any (by simp [h1.2])), rfl⟩
      | _ => cases ht
    | _ => cases h
  | enumzip => simp [itF] at h
theorem own_names {N : List Str} {scope : Scope} {is : List Nat} : (ownOf N scope is).map (·.2) = is := by
  unfold ownOf
  rw [List.map_map]
  exact List.map_id'' (fun _ => rfl) is
theorem XOk.blk (O : XOk g C EW ce X) {s : Shared} {H : Hp} {scope : Scope} {Ca : Addr} {cl : List (Str × Addr)} {fp : List Addr} :
    XOk g C EB { ce with lam := false, sc := relS scope ce.sc, blk := some scope } (X.blk s H scope (compEnvC scope cl Ca X.env) fp) :=
  ⟨O.bd.blk, O.N, by rw [← O.sc]; rfl, O.calm, fun x h => h, fun h => (nomatch h), O.ty, O.fn⟩
/-- a comprehension, read -/
theorem lc_ok (O : XOk g C EW ce X) {e1 c : E} {t : T} {ik : ItK} {src : List E} (ih1 : P1 g C e1) (ihs : P2 g C src) (ihc : P1 g C c) {elt : Expr} {scope : Scope} {q : Comprehension}
    (hset : notSet q.iter = true) (hb : blkC ce.N ce.sc scope (ownOf ce.N scope t.names) = true) (ht : okT { ce with lam := false, sc := relS scope ce.sc, blk := some scope } t q.target = true) (hi : itF ce ik (fun l => okEs g .b ce src l) q.target q.iter = true)
    (hc : (match q.ifs with
          | [] => isYes c
          | [x] => okE g .t { ce with lam := false, sc := relS scope ce.sc, blk := some scope } c x
          | _ => false) = true) (he : okE g .v { ce with lam := false, sc := relS scope ce.sc, blk := some scope } e1 elt = true) :
    LcOk g C EW X elt q.target q.iter q.ifs scope (ownOf ce.N scope t.names) true e1 t ik src c := by
  refine ⟨(it_ok (.inr rfl) O ihs hi).1, blkOk_by (by rw [O.N, O.sc]; exact hb), fun s H Ca cl fp => (tgt_ok t O.blk ht).1, fun s H Ca cl fp => ?_, fun s H Ca cl fp => ih1 .v _ _ EB elt O.blk he, fun i h => by rw [own_names] at h; exact h, fun i h => by rw [own_names]; exact h, fun x => notSet_ok hset x⟩
  obtain ⟨tg, iter, ifs, asy⟩ := q
  match ifs, hc with
  | [], hc =>
    rw [isYes_ok hc]
    exact ts_yes
  | [x], hc => exact pts_one (ihc .t _ _ EB x O.blk hc)
/-- the checker's part for a comprehension -/
def okLc (g : G) (ce : CE) (e1 : E) (t : T) (ik : ItK) (src : List E) (c : E) (elt : Expr) (scope : Scope) (q : Comprehension) : Bool :=
  decide (q.is_async = 0) && notSet q.iter && blkC ce.N ce.sc scope (ownOf ce.N scope t.names) && okT { ce with lam := false, sc := relS scope ce.sc, blk := some scope } t q.target && itF ce ik (fun l => okEs g .b ce src l) q.target q.iter &&
          (match q.ifs with
          | [] => isYes c
          | [x] => okE g .t { ce with lam := false, sc := relS scope ce.sc, blk := some scope } c x
          | _ => false) && okE g .v { ce with lam := false, sc := relS scope ce.sc, blk := some scope } e1 elt
theorem okLc_ok (O : XOk g C EW ce X) {e1 c : E} {t : T} {ik : ItK} {src : List E} (ih1 : P1 g C e1) (ihs : P2 g C src) (ihc : P1 g C c) {elt : Expr} {scope : Scope} {q : Comprehension} (h : okLc g ce e1 t ik src c elt scope q = true) :
    q = ⟨q.target, q.iter, q.ifs, 0⟩ ∧ LcOk g C EW X elt q.target q.iter q.ifs scope (ownOf ce.N scope t.names) true e1 t ik src c := by
  unfold okLc at h
  simp only [Bool.and_eq_true, decide_eq_true_eq] at h
  obtain ⟨⟨⟨⟨⟨⟨h1, h2⟩, h3⟩, h4⟩, h5⟩, h6⟩, h7⟩ := h
  refine ⟨?_, lc_ok O ih1 ihs ihc h2 h3 h4 h5 h6 h7⟩
  obtain ⟨tg, iter, ifs, asy⟩ := q
  have h1 : asy = 0 := h1
  subst h1
  rfl
theorem c_compN {e1 c : E} {t : T} {ik : ItK} {src : List E} (ih1 : P1 g C e1) (ihs : P2 g C src) (ihc : P1 g C c) (O : XOk g C EW ce X) {md : Md} (h : okE g md ce (.comp e1 t ik src c) e = true) :
    md ≠ .w ∧ ∃ elt scope q pos, e = .ListComp elt [q] scope pos ∧ okLc g ce e1 t ik src c elt scope q = true := by
  simp only [okE, Bool.and_eq_true, decide_eq_true_eq] at h
  refine ⟨h.1, ?_⟩
  cases e with
  | ListComp elt gens scope pos =>
    match gens, h.2 with
    | [q], h => exact ⟨elt, scope, q, pos, rfl, by unfold okLc; exact h⟩
  | _ => cases h.2
theorem c_comp {e1 c : E} {t : T} {ik : ItK} {src : List E} (ih1 : P1 g C e1) (ihs : P2 g C src) (ihc : P1 g C c) : P1 g C (.comp e1 t ik src c) := fun md ce X EW e O h => by
  obtain ⟨hw, elt, scope, q, pos, rfl, hl⟩ := c_compN ih1 ihs ihc O h
  obtain ⟨eq, L⟩ := okLc_ok O ih1 ihs ihc hl
  rw [eq]
  exact res_v (s_N (n_comp O.calm O.bd.nodup L)) hw rfl
theorem c_refused {f : Nat} {a : E} (iha : P1 g C a) : P1 g C (.refused f a) := fun md ce X EW e O h => by
  simp only [okE, Bool.and_eq_true, decide_eq_true_eq] at h
  obtain ⟨⟨hw, hl⟩, h⟩ := h
  cases e with
  | Call fn as ks p =>
    simp only [Bool.and_eq_true, List.isEmpty_iff] at h
    obtain ⟨⟨⟨rfl, hf⟩, hh⟩, h⟩ := h
    obtain ⟨q, rfl, hg, hdb⟩ := isTop_ok O hf
    match as, h with
    | [x], h =>
      cases x with
      | Lambda ps body scope lp =>
        simp only [Bool.and_eq_true] at h
        obtain ⟨⟨hp, hs⟩, hb⟩ := h
        have ep : ps = ⟨[], [], none, [], [], none, []⟩ := by
          obtain ⟨a1, a2, a3, a4, a5, a6, a7⟩ := ps
          simp only [noPar, Bool.and_eq_true, List.isEmpty_iff, Option.isNone_iff_eq_none] at hp
          obtain ⟨⟨⟨⟨⟨⟨rfl, rfl⟩, rfl⟩, rfl⟩, rfl⟩, rfl⟩, rfl⟩ := hp
          rfl
        subst ep
        refine res_v (s_refused O.bd (O.lam hl) hg hdb (LamX.lamS_by (by rw [O.sc]; exact hs)) (by rfl) (fun _ _ _ _ _ => by rfl) hh fun A outer s H E fa c' B => ?_) hw rfl
        exact iha .v { ce with lam := false, sc := scope, blk := some { scope with names := [] } } _ E body ⟨B, O.N, rfl, rfl, fun x h => by simp [CE.fn] at h, fun h => (nomatch h), O.ty, O.fn⟩ hb
      | _ => cases h
  | _ => cases h
theorem sound (m : E) : P1 g C m := by
  refine E.rec (motive_1 := P1 g C) (motive_2 := P2 g C) ?_ ?_ ?_ ?_ ?_ ?_ ?_ ?_ ?_ ?_ ?_ ?_ ?_ ?_ ?_ ?_ ?_ ?_ ?_ ?_ ?_ ?_ ?_ ?_ ?_ ?_ ?_ ?_ ?_ ?_ m
  · exact fun d => c_k
  · exact fun x i => c_gi
  · exact fun f => c_fn
  · exact fun i => c_var
  · exact fun i => c_bor
  · exact fun es ih => c_tup ih
  · exact fun es ih => c_lst ih
  · exact c_edic
  · exact fun o a b ha hb => c_bin ha hb
  · exact fun a ha => c_neg
  · exact fun o a b ha hb => c_cmp ha hb
  · exact fun o o' a b c ha hb hc => c_chn ha hb hc
  · exact fun a b ha hb => c_and ha hb
  · exact fun a b ha hb => c_or ha hb
  · exact fun a ha => c_not ha
  · exact fun a ha => c_tru ha
  · exact fun c a b hc ha hb => c_ite hc ha hb
  · exact fun a i ha hi => c_ix ha hi
  · exact fun a lo hi ha hl hh => c_sl ha hl hh
  · exact fun a f ha => c_fld ha
  · exact fun f es ih => c_call ih
  · exact fun i es ih => c_cvar ih
  · exact fun c es ih => c_mk ih
  · exact fun a m es ha ih => c_meth ha ih
  · exact fun b es ih => c_bi ih
  · exact fun a ts ha => c_isi ha
  · exact fun e t ik src c he hs hc => c_comp he hs hc
  · exact fun f a ha => c_refused ha
  · exact c_nil
  · exact fun m ms h hs => c_cons h hs
theorem sounds (ms : List E) : P2 g C ms := by
  induction ms with
  | nil => exact c_nil
  | cons m ms ih => exact c_cons (sound m) ih
end
end Mini
end
section
set_option Elab.async false
set_option linter.all false
set_option maxRecDepth 100000
set_option maxHeartbeats 2000000
/-! # Mini: the order of the stores of a, b = x, y -/
namespace Mini
open PySem L2 PySem.Spec PyProof.Rows
def isStarE : Expr → Bool
  | .Starred _ _ => true
  | _ => false
def namesAt (sc : Scope) (line : Nat) (ts : List Expr) : List Str := ts.filterMap fun
    | .Name id pos => if sc.names.lookup id == some .local && pos.line == line then some id else none
    | _ => none
def blkK (sc : Scope) : ScopeKind := if sc.kind.isAnnotationScope then .function else sc.kind
def swapsB (sc : Scope) (ts vs : List Expr) : Option (Option (List Str)) :=
  if !(ts.length == 2 || ts.length == 3) || vs.length != ts.length || blkK sc != .function then some none
  else if vs.any isStarE then some none
  else
    let names := namesAt sc ((ts.head?.map (·.pos.line)).getD 0) ts
    if names.length != ts.length || names.eraseDups.length != names.length then some none
    else if vs.all (foldedForSure 8) then some none
    else if vs.all (constantsAlone 8) then none
    else some (some names)
theorem swapsB_ok {env : PySem.Env} {ts vs : List Expr} {k k2 : Nat} {p p2 : Pos} {r : Option (List Str)} (h : swapsB env.scope ts vs = some r) : swappedStores [.Tuple ts k p] (.Tuple vs k2 p2) env = pure r := by
  have e : swappedStores [.Tuple ts k p] (.Tuple vs k2 p2) env =
      (if (!(ts.length == 2 || ts.length == 3) || vs.length != ts.length || blkK env.scope != .function) = true then pure none
      else if (vs.any isStarE) = true then pure none
      else if ((namesAt env.scope ((ts.head?.map (·.pos.line)).getD 0) ts).length != ts.length || (namesAt env.scope ((ts.head?.map (·.pos.line)).getD 0) ts).eraseDups.length != (namesAt env.scope ((ts.head?.map (·.pos.line)).getD 0) ts).length) = true then pure none
      else if vs.all (foldedForSure 8) = true then pure none
      else if vs.all (constantsAlone 8) = true then (do let r ← unsupported "assign.tuple-of-constant-expressions:order-of-the-stores"; (fun (_ : PUnit) => pure (some (namesAt env.scope ((ts.head?.map (·.pos.line)).getD 0) ts))) r)
      else pure (some (namesAt env.scope ((ts.head?.map (·.pos.line)).getD 0) ts))) := rfl
  rw [e]
  unfold swapsB at h
  split at h
  · rename_i c
    cases h
    rw [if_pos c]
  · rename_i c
    rw [if_neg c]
    split at h
    · rename_i c2
      cases h
      rw [if_pos c2]
    · rename_i c2
      rw [if_neg c2]
      simp only at h
      split at h
      · rename_i c3
        cases h
        rw [if_pos c3]
      · rename_i c3
        rw [if_neg c3]
        split at h
        · rename_i c4
          cases h
          rw [if_pos c4]
        · rename_i c4
          rw [if_neg c4]
          split at h
          · cases h
          · rename_i c5
            cases h
            rw [if_neg c5]
end Mini
end
section
set_option Elab.async false
set_option linter.all false
set_option maxRecDepth 100000
set_option maxHeartbeats 2000000
/-! # Mini: the checker for statements -/
namespace Mini
open PySem L2 PySem.Spec PyProof.Rows
def isCompE : E → Bool
  | .comp _ _ _ _ _ => true
  | _ => false
theorem isCompE_ok {m : E} (h : isCompE m = true) : ∃ e t ik src c, m = .comp e t ik src c := by
  cases m with
  | comp e t ik src c => exact ⟨e, t, ik, src, c, rfl⟩
  | _ => cases h
/-- an expression that makes a list, a dict of its own -/
def isNewE : E → Bool
  | .lst _ => true
  | .edic => true
  | .comp _ _ _ _ _ => true
  | .bi b ms => decide (b = .list) && ms.length == 1
  | _ => false
def isNameN (ce : CE) (i : Nat) : Expr → Bool
  | .Name x _ => decide (ce.N[i]? = some x) && locB ce.sc x && dbg x && (ce.fn x || ce.sc.names.lookup x == some .local)
  | _ => false
/-- a comprehension on the name's own line, the name a plain local -/
def lcLine (ce : CE) (tg : Expr) : Expr → Bool
  | .ListComp _ _ scope pos => (match tg with
    | .Name y py => decide (ce.sc.kind = .function) && decide (ce.sc.names.lookup y = some .local) && (py.line == pos.line) && !(scope.names.any fun (n, k) => n == y && (k == .local || k == .cell))
    | _ => false)
  | _ => false
/-- nothing swaps -/
def noSwap (ce : CE) (tg : Expr) (v : Expr) : Bool := notComp v || (match v, tg with
  | .ListComp _ _ _ _, .Tuple _ _ _ => true
  | .ListComp _ _ _ _, .Attribute _ _ _ => true
  | .ListComp _ _ _ _, .Subscript _ _ _ => true
  | .ListComp _ _ _ _, .Name y _ => !(ce.sc.names.lookup y == some .local)
  | _, _ => false)
/-- the stores are in order -/
def inOrder (ce : CE) (tg : Expr) (v : Expr) : Bool := notTup v || notSeqT tg || (match tg, v with
  | .Tuple ts _ _, .Tuple vs _ _ => decide (swapsB ce.sc ts vs = some none)
  | _, _ => false)
/-- a, b (, c) = x, y (, z): stored from the right -/
def okPar (g : G) (ce : CE) (t : T) (m : E) (tg v : Expr) : Bool := match t, m, tg, v with
  | .tup ts, .tup ms, .Tuple ls _ _, .Tuple vs _ _ => (match ts, ms, ls, vs with
    | [.nm i, .nm j], [ma, mb], [.Name x px, .Name y py], [a, b] => decide (swapsB ce.sc [.Name x px, .Name y py] [a, b] = some (some [x, y])) && decide (i ≠ j) && decide (ce.N[i]? = some x) && decide (ce.N[j]? = some y) && decide (ce.sc.names.lookup x = some .local) && decide (ce.sc.names.lookup y = some .local) && okEs g .v ce [ma, mb] [a, b]
    | [.nm i, .nm j, .nm k], [ma, mb, mc], [.Name x px, .Name y py, .Name z pz], [a, b, c] => decide (swapsB ce.sc [.Name x px, .Name y py, .Name z pz] [a, b, c] = some (some [x, y, z])) && decide (i ≠ j) && decide (i ≠ k) && decide (j ≠ k) && decide (ce.N[i]? = some x) && decide (ce.N[j]? = some y) && decide (ce.N[k]? = some z) &&
        decide (ce.sc.names.lookup x = some .local) && decide (ce.sc.names.lookup y = some .local) && decide (ce.sc.names.lookup z = some .local) && okEs g .v ce [ma, mb, mc] [a, b, c]
    | _, _, _, _ => false)
  | _, _, _, _ => false
/-- name.meth(e) as a statement -/
def isMeth (g : G) (ce : CE) (i : Nat) (nm : Str) (m : E) : Expr → Bool
  | .Call fn as ks cpos => ks.isEmpty && (match fn, as with
    | .Attribute o a apos, [x] => decide (a = nm) && isVar ce i o && (apos.endLine == cpos.line) && notStar x && okE g .v ce m x
    | _, _ => false)
  | _ => false
section
variable (g : G)
mutual
def okS (ce : CE) : S → Stmt → Bool
  | .pass, s => (match s with
    | .Pass _ => true
    | _ => false)
  | .ex m, s => (match s with
    | .Expr e _ => notComp e && okE g .v ce m e
    | _ => false)
  | .set t m, s => (match s with
    | .Assign tgs v _ => (match tgs with
      | [tg] => (match t with
        | .own i => isNameN ce i tg && isNewE m && okE g .v ce m v && (noSwap ce tg v || (isCompE m && lcLine ce tg v))
        | .fld i f => (match tg with
          | .Attribute o a _ => decide (a = g.NM.fld f) && isVar ce i o && okE g .v ce m v && noSwap ce tg v
          | _ => false)
        | t => (t.pl && okT ce t tg && okE g .v ce m v && noSwap ce tg v && inOrder ce tg v) || okPar g ce t m tg v || (match t with
          | .nm i => isNameN ce i tg && isCompE m && lcLine ce tg v && okE g .v ce m v
          | _ => false))
      | _ => false)
    | _ => false)
  | .par _ _, _ => false
  | .newp i ms, s => (match s with
    | .Assign tgs v _ => (match tgs, v with
      | [tg], .List es _ => isNameN ce i tg && decide (ms.length ≤ 1000) && okEs g .v ce ms es
      | _, _ => false)
    | _ => false)
  | .frz _, _ => false
  | .app i m, s => (match s with
    | .Expr e _ => isMeth g ce i "append" m e
    | _ => false)
  | .extd i m, s => (match s with
    | .Expr e _ => isMeth g ce i "extend" m e
    | _ => false)
  | .popto _ _, _ => false
  | .six i x m, s => (match s with
    | .Assign tgs v _ => (match tgs with
      | [tg] => (match tg with
        | .Subscript o ix _ => notSlice ix && isVar ce i o && okE g .v ce x ix && okE g .v ce m v && noSwap ce tg v
        | _ => false)
      | _ => false)
    | _ => false)
  | .aix _ _ _, _ => false
  | .aug i o m, s => (match s with
    | .AugAssign tg op v _ => isNameN ce i tg && (decide (o = .add) || decide (o = .mul)) && bopIs o op && okE g .v ce m v
    | _ => false)
  | .if_ c a b, s => (match s with
    | .If t x y _ => okE g .t ce c t && okSs ce a x && okSs ce b y
    | _ => false)
  | .for_ t ik src body, s => (match s with
    | .For tg it x o _ => o.isEmpty && okT ce t tg && itF ce ik (fun l => okEs g .v ce src l) tg it && okSs ce body x
    | _ => false)
  | .whl c body, s => (match s with
    | .While t x o _ => o.isEmpty && okE g .t ce c t && okSs ce body x
    | _ => false)
  | .ret m, s => (match s with
    | .Return o _ => (match o with
      | some e => okE g .v ce m e
      | none => false)
    | _ => false)
  | .rai c m, s => (match s with
    | .Raise x k _ => k.isNone && (match x with
      | some e => (match e with
        | .Call fn as ks _ => ks.isEmpty && decide (c < g.NM.nE) && isTop ce (g.NM.exc c) fn && (match as with
          | [y] => notStar y && okE g .v ce m y
          | _ => false)
        | _ => false)
      | none => false)
    | _ => false)
def okSs (ce : CE) : List S → List Stmt → Bool
  | [], ss => ss.isEmpty
  | .frz _ :: ms, ss => okSs ce ms ss
  | m :: ms, ss => (match ss with
    | [] => false
    | s :: ss => okS ce m s && okSs ce ms ss)
end
end
end Mini
end
section
set_option Elab.async false
set_option linter.all false
set_option maxRecDepth 100000
set_option maxHeartbeats 2000000
/-! # Mini: statements that the checker passes -/
namespace Mini
open PySem L2 PySem.Spec PyProof.Rows
structure XOkS (g : G) (C : Calls) (EW : XK) (ce : CE) (X : Cx) : Prop extends XOk g C EW ce X where
  pass : PassesOwn (model X.prog X.w) X.A X.env X.xe
def Q1 (g : G) (C : Calls) (m : S) : Prop := ∀ ce X EW w s, XOkS g C EW ce X → okS g ce m s = true → PS X s (tS g C EW w m)
def Q2 (g : G) (C : Calls) (ms : List S) : Prop := ∀ ce X EW w ss, XOkS g C EW ce X → okSs g ce ms ss = true → PSs X ss (tSs g C EW w ms)
section
variable {g : G} {C : Calls} {EW : XK} {X : Cx} {ce : CE} {e tg v : Expr} {m : E} {w : Nat}
theorem isNameN_ok (O : XOk g C EW ce X) {i : Nat} (h : isNameN ce i e = true) : ∃ x p, e = .Name x p ∧ X.N[i]? = some x ∧ Loc X.env.scope x ∧ (X.fn x = true ∨ X.env.scope.names.lookup x = some .local) := by
  cases e with
  | Name x p =>
    simp only [isNameN, Bool.and_eq_true, decide_eq_true_eq, Bool.or_eq_true, beq_iff_eq] at h
    obtain ⟨⟨⟨h1, h2⟩, h3⟩, h4⟩ := h
    refine ⟨x, p, rfl, by rw [O.N]; exact h1, by rw [O.sc]; exact locB_ok h2, ?_⟩
    rcases h4 with h4 | h4
    · exact .inl (O.fnc x h4)
    · exact .inr (by rw [O.sc]; exact h4)
  | _ => cases h
theorem noSwap_ok (O : XOk g C EW ce X) {l : Nat} (h : noSwap ce tg v = true) : swapsWith v (some tg) l X.env = pure false := by
  unfold noSwap at h
  simp only [Bool.or_eq_true] at h
  rcases h with h | h
  · exact swaps_no h
  · cases v with
    | ListComp elt gs scope pos =>
      cases tg with
      | Tuple _ _ _ => exact swaps_tup
      | Attribute _ _ _ => exact swaps_fld
      | Subscript _ _ _ => exact swaps_sub
      | Name y p =>
        refine swaps_cell ?_
        rw [O.sc]
        simpa using h
      | _ => cases h
    | _ => cases h
theorem inOrder_ok (O : XOk g C EW ce X) (h : inOrder ce tg v = true) : swappedStores [tg] v X.env = pure none := by
  unfold inOrder at h
  simp only [Bool.or_eq_true] at h
  rcases h with (h | h) | h
  · exact stores_v h
  · exact stores_t h
  · cases tg with
    | Tuple ts k p =>
      cases v with
      | Tuple vs k2 p2 => exact swapsB_ok (by rw [O.sc]; exact of_decide_eq_true h)
      | _ => cases h
    | _ => cases h
theorem lcLine_ok (O : XOk g C EW ce X) (h : lcLine ce tg v = true) : ∃ elt gs scope pos y py, v = .ListComp elt gs scope pos ∧ tg = .Name y py ∧ X.env.scope.names.lookup y = some .local ∧ ∀ l, swapsWith v (some tg) l X.env = pure true := by
  cases v with
  | ListComp elt gs scope pos =>
    cases tg with
    | Name y py =>
      simp only [lcLine, Bool.and_eq_true, decide_eq_true_eq, Bool.not_eq_true'] at h
      obtain ⟨⟨⟨h1, h2⟩, h3⟩, h4⟩ := h
      exact ⟨elt, gs, scope, pos, y, py, rfl, rfl, by rw [O.sc]; exact h2, fun l => sw_true (by rw [O.sc]; exact h1) (by rw [O.sc]; exact h2) h3 h4⟩
    | _ => cases h
  | _ => cases h
theorem n_list {X : Cx} {p pos : Pos} {a : Expr} {ma : E} (B : Bd g C EW X) (hg : Gl X "list") (ha : PE X a (tB g C EW ma)) (hs : starEach [a] X.env = (false, eval a X.env) :: starEach [] X.env) : PE X (.Call (.Name "list" p) [a] [] pos) (tN g C EW (.bi .list [ma])) := by
  refine PE_imp (pe_callTy (T := "list") call_list_of hg (B.txt.blt _ (by simp)) (show bootBuiltins ("list" : Str) = _ by decide +kernel) (pa_cons ha pa_nil hs) (by decide) (by decide) hs (by rfl)) fun σ H Q ⟨F, r, q⟩ => ?_
  simp only [ev, evs] at q
  have q' : PostK g EW F σ H (fun F' H' d => KN g Q H F' σ H' d) ((ev g.PR C ma F.ρ F.st).bind fun d st => R.ofOpt (opBi .list [d]) st) := by
    revert q
    cases ev g.PR C ma F.ρ F.st <;> exact fun q => q
  refine ⟨F, r, q'.bind.mono fun F1 H1 d ⟨n1, r1, _, q1⟩ v hv => ?_⟩
  obtain ⟨z, hz, q2⟩ := q1.opt
  cases d with
  | lst l =>
    simp only [opBi, Option.some.injEq] at hz
    subst hz
    obtain ⟨a, vs, rfl, hH, hl⟩ := hv.lst
    exact ⟨a, vs, rfl, .inl (SqL.of hH), fun p hp => KN.lst r1 hl hp n1.there (q2.new r1 hp)⟩
  | tup l =>
    simp only [opBi, Option.some.injEq] at hz
    subst hz
    obtain ⟨a, vs, rfl, hH, hl, _⟩ := hv.tup
    exact ⟨a, vs, rfl, .inr (SqT.of hH), fun p hp => KN.lst r1 hl hp n1.there (q2.new r1 hp)⟩
  | _ => simp [opBi] at hz
theorem newE_ok (O : XOk g C EW ce X) (hn : isNewE m = true) (h : okE g .v ce m e = true) : PE X e (tN g C EW m) := by
  cases m with
  | lst ms =>
    simp only [okE, Bool.and_eq_true] at h
    cases e with
    | List l p =>
      simp only [Bool.and_eq_true, decide_eq_true_eq] at h
      exact n_lst ((sounds ms).1 .v ce X EW l O h.2.2).1 h.2.1
    | _ => cases h.2
  | edic =>
    simp only [okE, Bool.and_eq_true] at h
    cases e with
    | Dict ks vs p =>
      simp only [Bool.and_eq_true, List.isEmpty_iff] at h
      obtain ⟨hw, rfl, rfl⟩ := h
      exact n_edic
    | _ => cases h.2
  | comp e1 t ik src c =>
    obtain ⟨hw, elt, scope, q, pos, rfl, hl⟩ := c_compN (sound e1) (sounds src) (sound c) O h
    obtain ⟨eq, L⟩ := okLc_ok O (sound e1) (sounds src) (sound c) hl
    rw [eq]
    exact n_comp O.calm O.bd.nodup L
  | bi b ms =>
    simp only [isNewE, Bool.and_eq_true, decide_eq_true_eq, beq_iff_eq] at hn
    obtain ⟨rfl, hml⟩ := hn
    simp only [okE, Bool.and_eq_true] at h
    cases e with
    | Call fn as ks p =>
      simp only [Bool.and_eq_true, List.isEmpty_iff] at h
      obtain ⟨hw, rfl, h⟩ := h
      rw [if_neg (by decide), if_neg (by decide)] at h
      simp only [Bool.and_eq_true, Bool.not_eq_true'] at h
      obtain ⟨⟨⟨hbo, hf⟩, hne⟩, ha⟩ := h
      obtain ⟨q, rfl, hg, hdb⟩ := isTop_ok O hf
      obtain ⟨ma, rfl⟩ := List.length_eq_one_iff.mp hml
      obtain ⟨a, rfl⟩ := List.length_eq_one_iff.mp (okEs_len ha).symm
      simp only [okEs, Bool.and_eq_true] at ha
      exact n_list O.bd hg (sound ma .b ce X EW a O ha.1.2) (star_ok ha.1.1)
    | _ => cases h.2
  | _ => cases hn
/-! ### one by one -/
variable {C : Calls}
theorem q_pass : Q1 g C .pass := fun ce X EW w s O h => by
  cases s with
  | Pass p => exact t_pass
  | _ => simp [okS] at h
theorem q_ex : Q1 g C (.ex m) := fun ce X EW w s O h => by
  cases s with
  | Expr e p =>
    simp only [okS, Bool.and_eq_true] at h
    exact t_expr (sound m .v ce X EW e O.toXOk h.2) (swaps_no h.1)
  | _ => simp [okS] at h
theorem q_ret : Q1 g C (.ret m) := fun ce X EW w s O h => by
  cases s with
  | Return o p =>
    cases o with
    | none => simp [okS] at h
    | some e =>
      simp only [okS] at h
      exact t_ret (sound m .v ce X EW e O.toXOk h)
  | _ => simp [okS] at h
theorem q_rai {c : Nat} : Q1 g C (.rai c m) := fun ce X EW w s O h => by
  cases s with
  | Raise x k p =>
    simp only [okS, Bool.and_eq_true, Option.isNone_iff_eq_none] at h
    obtain ⟨rfl, h⟩ := h
    cases x with
    | none => cases h
    | some e =>
      cases e with
      | Call fn as ks q =>
        simp only [Bool.and_eq_true, List.isEmpty_iff, decide_eq_true_eq] at h
        obtain ⟨⟨⟨rfl, hc⟩, hf⟩, h⟩ := h
        obtain ⟨q, rfl, hg, hdb⟩ := isTop_ok O.toXOk hf
        match as, h with
        | [y], h =>
          simp only [Bool.and_eq_true] at h
          exact t_rai O.bd O.calm hc hg (O.bd.exs.nam c hc) hdb (sound m .v ce X EW y O.toXOk h.2) (star_ok h.1) (by rfl)
      | _ => cases h
  | _ => simp [okS] at h
theorem q_if {c : E} {a b : List S} (iha : Q2 g C a) (ihb : Q2 g C b) : Q1 g C (.if_ c a b) := fun ce X EW w s O h => by
  cases s with
  | If t x y p =>
    simp only [okS, Bool.and_eq_true] at h
    exact t_if (sound c .t ce X EW t O.toXOk h.1.1) (iha ce X EW w x O h.1.2) (ihb ce X EW w y O h.2)
  | _ => simp [okS] at h
theorem q_for {t : T} {ik : ItK} {src : List E} {body : List S} (ih : Q2 g C body) : Q1 g C (.for_ t ik src body) := fun ce X EW w s O h => by
  cases s with
  | For tg it x o p =>
    simp only [okS, Bool.and_eq_true, List.isEmpty_iff] at h
    obtain ⟨⟨⟨rfl, ht⟩, hi⟩, hb⟩ := h
    obtain ⟨pi, hset⟩ := it_ok (.inl rfl) O.toXOk (sounds src) hi
    exact t_for O.pass O.calm pi (tgt_ok t O.toXOk ht).1 (ih ce X EW w x O hb) (fun x => notSet_ok hset x)
  | _ => simp [okS] at h
theorem q_whl {c : E} {body : List S} (ih : Q2 g C body) : Q1 g C (.whl c body) := fun ce X EW w s O h => by
  cases s with
  | While t x o p =>
    simp only [okS, Bool.and_eq_true, List.isEmpty_iff] at h
    obtain ⟨⟨rfl, ht⟩, hb⟩ := h
    exact t_whl O.pass (sound c .t ce X EW t O.toXOk ht) (ih ce X EW w x O hb)
  | _ => simp [okS] at h
theorem q_aug {i : Nat} {o : BOp} : Q1 g C (.aug i o m) := fun ce X EW w s O h => by
  cases s with
  | AugAssign tg op v p =>
    simp only [okS, Bool.and_eq_true, Bool.or_eq_true, decide_eq_true_eq] at h
    obtain ⟨⟨⟨hn, ho⟩, hop⟩, hv⟩ := h
    obtain ⟨x, q, rfl, h1, h2, h3⟩ := isNameN_ok O.toXOk hn
    rw [bopIs_ok hop]
    exact t_aug ho O.bd.nodup h1 h2 h3 (sound m .v ce X EW v O.toXOk hv)
  | _ => simp [okS] at h
theorem q_newp {i : Nat} {ms : List E} : Q1 g C (.newp i ms) := fun ce X EW w s O h => by
  cases s with
  | Assign tgs v p =>
    simp only [okS] at h
    cases v with
    | List es p2 =>
      match tgs, h with
      | [tg], h =>
        simp only [Bool.and_eq_true, decide_eq_true_eq] at h
        obtain ⟨⟨hn, hl⟩, hes⟩ := h
        obtain ⟨x, q, rfl, h1, h2, h3⟩ := isNameN_ok O.toXOk hn
        exact t_newp O.bd.nodup h1 h2 h3 ((sounds ms).1 .v ce X EW es O.toXOk hes).1 hl (swaps_no rfl)
    | _ => match tgs, h with | [tg], h => cases h
  | _ => simp [okS] at h
theorem isMeth_ok {i : Nat} {nm : Str} (O : XOk g C EW ce X) (h : isMeth g ce i nm m e = true) : ∃ x p apos a cpos, e = .Call (.Attribute (.Name x p) nm apos) [a] [] cpos ∧ X.N[i]? = some x ∧ Vis X.env.scope x ∧ (x == ("__debug__" : Str)) = false ∧ (x == ("__classdict__" : Str)) = false ∧
    (apos.endLine == cpos.line) = true ∧ notStar a = true ∧ PE X a (tE g C EW m) := by
  cases e with
  | Call fn as ks cpos =>
    simp only [isMeth, Bool.and_eq_true, List.isEmpty_iff] at h
    obtain ⟨rfl, h⟩ := h
    cases fn with
    | Attribute o a apos =>
      match as, h with
      | [y], h =>
        simp only [Bool.and_eq_true, decide_eq_true_eq] at h
        obtain ⟨⟨⟨⟨rfl, hv⟩, hl⟩, hs⟩, he⟩ := h
        obtain ⟨x, p, rfl, h1, h2, h3, h4⟩ := isVar_ok O hv
        exact ⟨x, p, apos, y, cpos, rfl, h1, h2, h3, h4, hl, hs, sound m .v ce X EW y O he⟩
    | _ => cases h
  | _ => cases h
theorem few1 {a : Expr} {env : PySem.Env} {cpos : Pos} (h : notStar a = true) : ((backTo cpos (starEach [a] env)).all (fun x => !x.1) && (backToKw cpos (keywordEach [] env)).all (fun x => x.1.isSome) && decide ([a].length + ([] : List Keyword).length + (if ([] : List Keyword).isEmpty then 0 else 1) < 30)) = true := by
  rw [star_all (by simp [h])]
  rfl
theorem q_app {i : Nat} : Q1 g C (.app i m) := fun ce X EW w s O h => by
  cases s with
  | Expr e p =>
    simp only [okS] at h
    obtain ⟨x, q, apos, a, cpos, rfl, h1, h2, h3, h4, hl, hs, he⟩ := isMeth_ok O.toXOk h
    exact t_app O.bd.K h1 h2 h3 h4 he (notSuper_ok rfl) (few1 hs) hl (star_ok hs) (by rfl) (swaps_no rfl)
  | _ => simp [okS] at h
theorem q_extd {i : Nat} : Q1 g C (.extd i m) := fun ce X EW w s O h => by
  cases s with
  | Expr e p =>
    simp only [okS] at h
    obtain ⟨x, q, apos, a, cpos, rfl, h1, h2, h3, h4, hl, hs, he⟩ := isMeth_ok O.toXOk h
    exact t_extd O.bd.K h1 h2 h3 h4 he (notSuper_ok rfl) (few1 hs) hl (star_ok hs) (by rfl) (swaps_no rfl)
  | _ => simp [okS] at h
theorem q_six {i : Nat} {x : E} : Q1 g C (.six i x m) := fun ce X EW w s O h => by
  cases s with
  | Assign tgs v p =>
    simp only [okS] at h
    match tgs, h with
    | [tg], h =>
      cases tg with
      | Subscript o ix tp =>
        simp only [Bool.and_eq_true] at h
        obtain ⟨⟨⟨⟨hsl, hv⟩, hx⟩, hm⟩, hs⟩ := h
        obtain ⟨y, q, rfl, h1, h2, h3, h4⟩ := isVar_ok O.toXOk hv
        exact t_six O.bd.K h1 h2 h3 h4 (sound m .v ce X EW v O.toXOk hm) (sound x .v ce X EW ix O.toXOk hx) (fun v => by cases ix with | Slice _ _ _ _ => cases hsl | _ => simp only [PySem.assign]) (noSwap_ok (l := p.line) O.toXOk hs) (stores_t rfl) (assign1 rfl)
      | _ => cases h
  | _ => simp [okS] at h
theorem q_setOwn {i : Nat} : Q1 g C (.set (.own i) m) := fun ce X EW w s O h => by
  cases s with
  | Assign tgs v p =>
    simp only [okS] at h
    match tgs, h with
    | [tg], h =>
      simp only [Bool.and_eq_true, Bool.or_eq_true] at h
      obtain ⟨⟨⟨hn, hne⟩, hv⟩, hs⟩ := h
      obtain ⟨x, q, rfl, h1, h2, h3⟩ := isNameN_ok O.toXOk hn
      rcases hs with hs | hs
      · exact t_setown O.bd.nodup h1 h2 h3 (newE_ok O.toXOk hne hv) (noSwap_ok O.toXOk hs)
      · obtain ⟨elt, gs, scope, pos, y, py, rfl, e2, hyl, hsw⟩ := lcLine_ok O.toXOk hs.2
        cases e2
        obtain ⟨e1, t, ik, src, c, rfl⟩ := isCompE_ok hs.1
        obtain ⟨hw, elt', scope', q', pos', e3, hl⟩ := c_compN (sound e1) (sounds src) (sound c) O.toXOk hv
        cases e3
        obtain ⟨eq, L⟩ := okLc_ok O.toXOk (sound e1) (sounds src) (sound c) hl
        rw [eq] at hsw ⊢
        exact t_ownLc O.calm O.bd.nodup L h1 hyl (hsw _)
  | _ => simp [okS] at h
theorem q_setFld {i f : Nat} : Q1 g C (.set (.fld i f) m) := fun ce X EW w s O h => by
  cases s with
  | Assign tgs v p =>
    simp only [okS] at h
    match tgs, h with
    | [tg], h =>
      cases tg with
      | Attribute o a ap =>
        simp only [Bool.and_eq_true, decide_eq_true_eq] at h
        obtain ⟨⟨⟨rfl, hv⟩, hm⟩, hs⟩ := h
        obtain ⟨y, q, rfl, h1, h2, h3, h4⟩ := isVar_ok O.toXOk hv
        exact t_fld O.bd.txt O.bd.K h1 h2 h3 h4 (sound m .v ce X EW v O.toXOk hm) (noSwap_ok O.toXOk hs)
      | _ => cases h
  | _ => simp [okS] at h
theorem par_ok {t : T} {p : Pos} (O : XOkS g C EW ce X) (h : okPar g ce t m tg v = true) : PS X (.Assign [tg] v p) (tS g C EW w (.set t m)) := by
  unfold okPar at h
  split at h
  case h_2 => cases h
  rename_i ts ms ls k1 p1 vs k2 p2
  split at h
  · simp only [Bool.and_eq_true, decide_eq_true_eq] at h
    obtain ⟨⟨⟨⟨⟨⟨h1, h2⟩, h3⟩, h4⟩, h5⟩, h6⟩, h7⟩ := h
    exact t_par2 O.calm O.bd.nodup (by rw [O.N]; exact h3) (by rw [O.N]; exact h4) h2 (by rw [O.sc]; exact h5) (by rw [O.sc]; exact h6) ((sounds _).1 .v ce X EW _ O.toXOk h7).1 (swapsB_ok (by rw [O.sc]; exact h1)) (by rfl)
  · simp only [Bool.and_eq_true, decide_eq_true_eq] at h
    obtain ⟨⟨⟨⟨⟨⟨⟨⟨⟨⟨h1, h2⟩, h3⟩, h4⟩, h5⟩, h6⟩, h7⟩, h8⟩, h9⟩, h10⟩, h11⟩ := h
    exact t_par3 O.calm O.bd.nodup (by rw [O.N]; exact h5) (by rw [O.N]; exact h6) (by rw [O.N]; exact h7) h2 h3 h4 (by rw [O.sc]; exact h8) (by rw [O.sc]; exact h9) (by rw [O.sc]; exact h10) ((sounds _).1 .v ce X EW _ O.toXOk h11).1 (swapsB_ok (by rw [O.sc]; exact h1)) (by rfl)
  · cases h
theorem q_setPl {t : T} (ht : t.pl = true) : Q1 g C (.set t m) := fun ce X EW w s O h => by
  cases s with
  | Assign tgs v p =>
    match tgs, h with
    | [tg], h =>
      have key : ((t.pl && okT ce t tg && okE g .v ce m v && noSwap ce tg v && inOrder ce tg v) || okPar g ce t m tg v || (match t with
          | .nm i => isNameN ce i tg && isCompE m && lcLine ce tg v && okE g .v ce m v
          | _ => false)) = true := by
        cases t with
        | own _ => cases ht
        | fld _ _ => cases ht
        | nm i => simpa only [okS] using h
        | tup ts => simpa only [okS] using h
      simp only [Bool.or_eq_true, Bool.and_eq_true] at key
      rcases key with (key | key) | key
      · obtain ⟨⟨⟨⟨_, h1⟩, h2⟩, h3⟩, h4⟩ := key
        obtain ⟨g1, g2⟩ := tgt_ok t O.toXOk h1
        exact t_set ht (sound m .v ce X EW v O.toXOk h2) g1 (noSwap_ok (l := p.line) O.toXOk h3) (inOrder_ok O.toXOk h4) (assign1 g2)
      · exact par_ok O key
      · cases t with
        | nm i =>
          simp only [Bool.and_eq_true] at key
          obtain ⟨⟨⟨hn, hc⟩, hs⟩, hv⟩ := key
          obtain ⟨x, q, rfl, h1, h2, h3⟩ := isNameN_ok O.toXOk hn
          obtain ⟨elt, gs, scope, pos, y, py, rfl, e2, hyl, hsw⟩ := lcLine_ok O.toXOk hs
          cases e2
          obtain ⟨e1, t, ik, src, c, rfl⟩ := isCompE_ok hc
          obtain ⟨hw, elt', scope', q', pos', e3, hl⟩ := c_compN (sound e1) (sounds src) (sound c) O.toXOk hv
          cases e3
          obtain ⟨eq, L⟩ := okLc_ok O.toXOk (sound e1) (sounds src) (sound c) hl
          rw [eq] at hsw ⊢
          exact t_nmLc O.calm O.bd.nodup L h1 hyl (hsw _)
        | _ => cases key
  | _ => cases t <;> simp [okS] at h
theorem q_set {t : T} : Q1 g C (.set t m) := by
  by_cases ht : t.pl = true
  · exact q_setPl ht
  · cases t with
    | own i => exact q_setOwn
    | fld i f => exact q_setFld
    | nm i => exact absurd rfl ht
    | tup ts =>
      -- names alone
      intro ce X EW w s O h
      cases s with
      | Assign tgs v p =>
        match tgs, h with
        | [tg], h =>
          simp only [okS, Bool.or_eq_true, Bool.and_eq_true] at h
          rcases h with (h | h) | h
          · exact absurd h.1.1.1.1 ht
          · exact par_ok O h
          · cases h
      | _ => simp [okS] at h
theorem q_nil : Q2 g C [] := fun ce X EW w ss O h => by
  cases ss with
  | nil => exact ss_nil
  | cons s ss => simp [okSs] at h
theorem q_cons {s : S} {ms : List S} (ih : Q1 g C s) (ihs : Q2 g C ms) : Q2 g C (s :: ms) := fun ce X EW w ss O h => by
  by_cases hf : ∃ i, s = .frz i
  · obtain ⟨i, rfl⟩ := hf
    simp only [okSs] at h
    exact ss_frz (ihs ce X EW w ss O h)
  · have key : ∃ st sr, ss = st :: sr ∧ okS g ce s st = true ∧ okSs g ce ms sr = true := by
      cases s with
      | frz i => exact absurd ⟨i, rfl⟩ hf
      | _ =>
        cases ss with
        | nil => simp [okSs] at h
        | cons st sr =>
          simp only [okSs, Bool.and_eq_true] at h
          exact ⟨st, sr, rfl, h⟩
    obtain ⟨st, sr, rfl, h1, h2⟩ := key
    exact ss_cons (ih ce X EW w st O h1) (ihs ce X EW w sr O h2)
theorem soundS (m : S) : Q1 g C m := by
  refine S.rec (motive_1 := Q1 g C) (motive_2 := Q2 g C) ?_ ?_ ?_ ?_ ?_ ?_ ?_ ?_ ?_ ?_ ?_ ?_ ?_ ?_ ?_ ?_ ?_ ?_ ?_ m
  · exact q_pass
  · exact fun e => q_ex
  · exact fun t e => q_set
  · exact fun ts es ce X EW w s O h => by simp [okS] at h
  · exact fun i es => q_newp
  · exact fun i ce X EW w s O h => by simp [okS] at h
  · exact fun i e => q_app
  · exact fun i e => q_extd
  · exact fun j i ce X EW w s O h => by simp [okS] at h
  · exact fun i x e => q_six
  · exact fun i x e ce X EW w s O h => by simp [okS] at h
  · exact fun i o e => q_aug
  · exact fun c a b ha hb => q_if ha hb
  · exact fun t ik src body ih => q_for ih
  · exact fun c body ih => q_whl ih
  · exact fun e => q_ret
  · exact fun c e => q_rai
  · exact q_nil
  · exact fun s ms h hs => q_cons h hs
theorem soundSs (ms : List S) : Q2 g C ms := by
  induction ms with
  | nil => exact q_nil
  | cons m ms ih => exact q_cons (soundS m) ih
end
end Mini
end
section
set_option Elab.async false
set_option linter.all false
set_option maxRecDepth 100000
set_option maxHeartbeats 2000000
/-! # Mini: all defs keep the evaluator's promise -/
namespace Mini
open PySem L2 PySem.Spec PyProof.Rows
section
variable {g : G} {C : Calls} {E : XK} {F : Fr} {H : Hp}
/-- a body's end, from what is wanted of the answer -/
theorem out_answer {Q : VK} {Fb : Fr} {o : Out} (hρ : F.ρ = []) (hω : F.ω = []) (r : Rep g F [] H) (e1 : Fb.α0 = F.α) (e2 : Fb.H0 = H) (e3 : Fb.ν = F.ν) (p : PostK g E F [] H (fun F' H' d => ∀ v, At g F'.μ F'.α H' d v → Q v H') o.answer) :
    PostS g E { nx := fun _ H' => Q .non H', rt := Q } Fb H o := by
  have less : ∀ {F' : Fr} {H' : Hp}, Lt Fb H F' H' → ∀ a, (F.to F'.α F'.st).μ a → F'.μ a := fun {F' H'} l a z => by
    rcases z with z | z | z
    · exact .inl (by rw [l.nu, e3]; exact z)
    · exact .inr (.inl z)
    · have z : some a ∈ F.ω := z
      rw [hω] at z
      cases z
  have nx : ∀ {F' : Fr} {σ' : L2.St} {H' : Hp}, Lt Fb H F' H' → Rep g F' σ' H' → Nx F.α H F'.α H' := fun {F' σ' H'} l r' => by
    have := r'.ent
    rw [l.a0, l.h0, e1, e2] at this
    exact this
  have leave : ∀ {F' : Fr} {σ' : L2.St} {H' : Hp}, Lt Fb H F' H' → Rep g F' σ' H' → Rep g (F.to F'.α F'.st) [] H' := fun {F' σ' H'} l r' => Rep.back r (nx l r') r' (less l)
  have mat : ∀ {F' : Fr} {σ' : L2.St} {H' : Hp} {d : D} {v : V}, Lt Fb H F' H' → Rep g F' σ' H' → At g F'.μ F'.α H' d v → At g (F.to F'.α F'.st).μ F'.α H' d v := fun {F' σ' H' d v} l r' h =>
    (⟨fun _ _ h _ _ => h, fun a _ z => less l a z, fun _ _ h => h⟩ : Mono F'.μ (F.to F'.α F'.st).μ F'.α F'.α H' H').at _ _ h
  cases o with
  | nx ρ st =>
    intro F' σ' H' l h1 h2 r'
    have q := p H' F'.α (nx l r')
    rw [← h2] at q
    exact q (leave l r') .non rfl
  | rt d st =>
    intro F' σ' H' v l h2 r' hv
    have q := p H' F'.α (nx l r')
    rw [← h2] at q
    exact q (leave l r') v (mat l r' hv)
  | exc c d st =>
    intro F' σ' H' v dx l h2 r' hv hd
    have q := p H' F'.α v dx (nx l r')
    rw [← h2] at q
    exact q (leave l r') (mat l r' hv) hd
  | bad => exact p
end
/-- the slots of a call's start -/
theorem start_len {fd : FD} {ss : List Slot} (h : ss.length ≤ fd.n) : (fd.start ss).length = fd.n := by
  unfold FD.start
  rw [List.length_append, List.length_replicate]
  omega
theorem rep_get {α : Type} {n i : Nat} {x y : α} (h : (List.replicate n x)[i]? = some y) : y = x := by
  obtain ⟨h1, h2⟩ := List.getElem?_eq_some_iff.mp h
  rw [List.getElem_replicate] at h2
  exact h2.symm
section
variable {g : G} {F : Fr} {H : Hp}
/-- a def's frame at its start -/
theorem Rep.enter {fd : FD} {ds : List D} {vs : List V} {N : List Str} (r : Rep g F [] H) (hρ : F.ρ = []) (hω : F.ω = []) (hv : Ats g F.μ F.α H ds vs) (hn : N.length = fd.n) (hl : ds.length ≤ fd.n) :
    Rep g { F with α0 := F.α, H0 := H, ρ := fd.start (ds.map .val), ω := List.replicate fd.n none, me := none } (L2.start N vs) H := by
  have mu : ∀ a, ({ F with α0 := F.α, H0 := H, ρ := fd.start (ds.map .val), ω := List.replicate fd.n none, me := none } : Fr).μ a ↔ F.μ a := fun a => by
    constructor
    · rintro (z | z | z)
      · exact .inl z
      · exact .inr (.inl z)
      · have z : some a ∈ List.replicate fd.n none := z
        rw [List.mem_replicate] at z
        cases z.2
    · rintro (z | z | z)
      · exact .inl z
      · exact .inr (.inl z)
      · rw [hω] at z; cases z
  have m : Mono F.μ ({ F with α0 := F.α, H0 := H, ρ := fd.start (ds.map .val), ω := List.replicate fd.n none, me := none } : Fr).μ F.α F.α H H := ⟨fun _ _ h _ _ => h, fun a _ z => (mu a).mp z, fun _ _ h => h⟩
  have nom : ∀ a : Addr, some a ∉ List.replicate fd.n (none : Option Addr) := fun a z => by
    rw [List.mem_replicate] at z
    cases z.2
  have hll := hv.length
  have sl : (fd.start (ds.map .val)).length = fd.n := start_len (by simpa using hl)
  refine ⟨Nx.refl _ _, fun a z => absurd z (nom a), r.al0, ?_, r.nda, fun a z => ⟨(r.nu a z).1, (r.nu a z).2.1, nom a⟩, r.tabs, r.alen, fun k o h => ?_, ?_, ?_, fun i s h => ?_, fun i c fs h => ?_⟩
  · have : (List.replicate fd.n (none : Option Addr)).filterMap id = [] := by
      rw [List.filterMap_eq_nil_iff]
      intro x hx
      rw [List.mem_replicate] at hx
      rw [hx.2]
      rfl
    show List.Nodup ((List.replicate fd.n (none : Option Addr)).filterMap id)
    rw [this]
    exact List.nodup_nil
  · obtain ⟨a, ha, q⟩ := r.objs k o h
    refine ⟨a, ha, ?_⟩
    cases o with
    | lst l =>
      obtain ⟨vs, h1, h2⟩ := q
      exact ⟨vs, h1, m.ats _ _ h2⟩
    | ins c fs =>
      obtain ⟨dx, vs, h1, hl, h2⟩ := q
      exact ⟨dx, vs, h1, hl, m.ats _ _ h2⟩
  · show (fd.start (ds.map .val)).length = (L2.start N vs).length
    rw [sl]
    unfold L2.start
    rw [List.length_append, List.length_map, List.length_replicate]
    omega
  · show (List.replicate fd.n (none : Option Addr)).length = (fd.start (ds.map .val)).length
    rw [sl, List.length_replicate]
  · have h : (fd.start (ds.map .val))[i]? = some s := h
    unfold FD.start at h
    by_cases hi : i < ds.length
    · rw [List.getElem?_append_left (by simpa using hi), List.getElem?_map] at h
      obtain ⟨d, hd, rfl⟩ := Option.map_eq_some_iff.mp h
      obtain ⟨v, h1, h2⟩ := hv.get hd
      refine ⟨v, ?_, m.at _ _ h2⟩
      unfold L2.start
      rw [List.getElem?_append_left (by rw [List.length_map]; omega), List.getElem?_map, h1]
      rfl
    · rw [List.getElem?_append_right (by simpa using hi)] at h
      rw [rep_get h]
      trivial
  · have h : (fd.start (ds.map .val))[i]? = some (.ownI c fs) := h
    unfold FD.start at h
    by_cases hi : i < ds.length
    · rw [List.getElem?_append_left (by simpa using hi), List.getElem?_map] at h
      obtain ⟨d, hd, e⟩ := Option.map_eq_some_iff.mp h
      cases e
    · rw [List.getElem?_append_right (by simpa using hi)] at h
      cases rep_get h
end
/-- what the text says of a def -/
structure DefTxt (g : G) (K : PySem.W.Frag) (mg : Str → Option Value) (base : Heap) (f : Nat) (fd : FD) (rec : FuncData) (ps : List Str) : Prop where
  ex : ∃ (name qual : Str) (params : Arguments) (body : List Stmt) (scope : Scope) (dV kV doc pm cdv ct oc : Value) (an od : Option Addr) (osl : Array (Option Value)) (N : List Str) (lam : Bool),
    rec = PySem.W.fnOf name qual params body scope dV kV doc pm an cdv ct ∧ K.lookup (g.AD.f f) = some ⟨oc, od, .func rec, osl⟩ ∧ PySem.W.codeIn K cdv qual = true ∧ FnScope N ps scope ∧ N.length = fd.n ∧ okSs g ⟨lam, N, scope, none⟩ fd.body body = true ∧
      (lam = true → ∃ c P, cdv = .ref c ∧ LamX.TabB base mg c P ∧ (P, (envOfC qual scope 0 0 cdv).qual ++ "<lambda>") ∈ g.T ∧ ∀ p ∈ g.T, p.1 = P → p.2 = (envOfC qual scope 0 0 cdv).qual ++ "<lambda>")
  len : ps.length = fd.np
  le : fd.np ≤ fd.n
  keep : PySem.W.keepIn K (.ref (g.AD.f f)) = true
  binds : Binds K rec ps []
/-- what holds through the whole law -/
structure Law (g : G) (P : Program) (w : World) (mg : Str → Option Value) (base : Heap) : Prop where
  txt : Txt g mg
  ty : TyG g g.K mg
  fn : ∀ f, g.NM.top f = true → mg (g.NM.fn f) = some (.ref (g.AD.f f))
  hand : ∀ f cl, g.PR.hand f = some cl → HandG g g.K mg f cl
  exs : ExG g P w g.K mg base
  meth : ∀ c m f, g.PR.meth c m = some f → (g.PR.defs f).isSome = true ∧ Cls g.K (g.AD.c c) ∧ Meth g.K (g.AD.c c) (g.NM.met m) (g.AD.f f) ∧ g.NM.met m ∉ g.names c
  defs : ∀ f fd, g.PR.defs f = some fd → ∃ rec ps, DefTxt g g.K mg base f fd rec ps
section
variable {g : G} {P : Program} {w : World} {mg : Str → Option Value} {base : Heap} {wf : Nat}
theorem def_step (L : Law g P w mg base) {k : Nat} {C : Calls} (Df : DefsG g P w g.K mg base k C) {f : Nat} {fd : FD} (hf : g.PR.defs f = some fd) {rec : FuncData} {ps : List Str} (T : DefTxt g g.K mg base f fd rec ps) {C' : Calls}
    (hC : ∀ ds st, C'.call f ds st = if ds.length = fd.np then (exs g.PR C wf fd.body (fd.start (ds.map .val)) st).answer else .bad) : FnG P w g.K mg base (k + 8) (g.AD.f f) rec ps (spF g C' f) := by
  obtain ⟨name, qual, params, body, scope, dV, kV, doc, pm, cdv, ct, oc, an, od, osl, N, lam, rfl, lk, hcd, S, hN, hok, hlam⟩ := T.ex
  have lenOf : ∀ {F : Fr} {ds : List D} {vs : List V} {H : Hp} {Q : VK} {E : XK}, Ats g F.μ F.α H ds vs → PostK g E F [] H (fun F' H' d => ∀ v, At g F'.μ F'.α H' d v → Q v H') (C'.call f ds F.st) → ds.length = fd.np := fun {F ds vs H Q E} hv p => by
    rw [hC] at p
    split at p
    · assumption
    · exact p.elim
  refine ⟨fun vs H Q E ⟨F, ds, _, _, _, hv, p⟩ => ?_, fun A outer s H args us vs Q E hg hr e0 hb hr2 ⟨F, ds, hρ, hω, r, hv, p⟩ => ?_⟩
  · rw [← hv.length, T.len]
    exact lenOf hv p
  · have hl := lenOf hv p
    rw [hC, if_pos hl] at p
    refine LamX.run_ofS (k := k + 7) lk hcd S hr e0 hb hr2 (by rw [← hv.length, T.len]; exact hl) fun hr' => ?_
    have h1 : Room (k + 1) (A.deeper (envOfC qual scope s.heap.objs.size (g.AD.f f) cdv)) := hr'.mono (by omega)
    have h2 : Room 2 (A.deeper (envOfC qual scope s.heap.objs.size (g.AD.f f) cdv)) := hr'.mono (by omega)
    have h4 : Room (k + 4) (A.deeper (envOfC qual scope s.heap.objs.size (g.AD.f f) cdv)) := hr'.mono (by omega)
    have tk : Takes (cxOf (L2.CX P w) P w g.K mg base N qual scope (g.AD.f f) cdv A outer s H E) (fun cls d _ H => E cls d H) := takes_of rfl rfl rfl rfl
    have B : Bd g C E (cxOf (L2.CX P w) P w g.K mg base N qual scope (g.AD.f f) cdv A outer s H E) := ⟨rfl, L.txt, hg, S.nd, tk, ⟨k, h1, Df⟩, h2, L.exs⟩
    have LD : lam = true → LamOk g C (cxOf (L2.CX P w) P w g.K mg base N qual scope (g.AD.f f) cdv A outer s H E) := fun hlm => by
      constructor
      · exact ⟨k, h4, Df⟩
      · exact hlam hlm
      · exact L.hand
    have O : XOkS g C E ⟨lam, N, scope, none⟩ (cxOf (L2.CX P w) P w g.K mg base N qual scope (g.AD.f f) cdv A outer s H E) :=
      ⟨⟨B, rfl, rfl, rfl, fun x _ => rfl, LD, L.ty, L.fn⟩, passes_of rfl⟩
    exact ⟨tSs g C E wf fd.body, soundSs fd.body ⟨lam, N, scope, none⟩ _ E wf body O hok, _, r.enter hρ hω hv hN (by rw [hl]; exact T.le), out_answer hρ hω r rfl rfl rfl p⟩
end
section
variable {g : G} {F : Fr} {H : Hp}
/-- the names are given up -/
theorem Rep.strip {F' F2 : Fr} {σ' : L2.St} {H' : Hp} (r : Rep g F' σ' H') (e1 : F2.α0 = F'.α0) (e2 : F2.H0 = F'.H0) (e3 : F2.α = F'.α) (e4 : F2.st = F'.st) (hρ : F2.ρ = []) (hω : F2.ω = []) (h : ∀ a, F2.ν a → F'.ν a ∨ some a ∈ F'.ω) : Rep g F2 [] H' := by
  cases F2 with | mk a0 h0 nu0 al om ro s0 me0 =>
  simp only at e1 e2 e3 e4 hρ hω h
  subst e1 e2 e3 e4 hρ hω
  have m : Mono F'.μ (Fr.mk F'.α0 F'.H0 nu0 F'.α [] [] F'.st me0).μ F'.α F'.α H' H' := ⟨fun _ _ h _ _ => h, fun a _ z => by
    rcases z with z | z | z
    · exact (h a z).elim .inl (fun z => .inr (.inr z))
    · exact .inr (.inl z)
    · exact absurd (show some a ∈ ([] : List (Option Addr)) from z) (by simp), fun _ _ h => h⟩
  refine ⟨r.ent, fun a z => (nomatch z), r.al0, List.nodup_nil, r.nda, fun a z => ?_, r.tabs, r.alen, fun k o ho => ?_, rfl, rfl, fun i s z => by simp at z, fun i c fs z => by simp at z⟩
  · rcases h a z with q | q
    · exact ⟨(r.nu a q).1, (r.nu a q).2.1, by simp⟩
    · exact ⟨(r.ow0 a q).2.1, (r.ow0 a q).2.2, by simp⟩
  · obtain ⟨a, ha, q⟩ := r.objs k o ho
    refine ⟨a, ha, ?_⟩
    cases o with
    | lst l =>
      obtain ⟨vs, h1, h2⟩ := q
      exact ⟨vs, h1, m.ats _ _ h2⟩
    | ins c fs =>
      obtain ⟨dx, vs, h1, hl, h2⟩ := q
      exact ⟨dx, vs, h1, hl, m.ats _ _ h2⟩
/-- an __init__'s frame at its start -/
theorem Rep.enterI {fd : FD} {ds : List D} {ws : List V} {N : List Str} {x : Addr} {c : Nat} (r : Rep g (F.plus x) [] H) (hρ : F.ρ = []) (hω : F.ω = []) (hx : ¬ F.μ x) (h0 : ¬ Ob F.H0 x) (hH : ∃ dx, H x = some (.ins (g.AD.c c) dx [])) (hv : Ats g (F.plus x).μ F.α H ds ws) (hn : N.length = fd.n) (hl : ds.length + 1 ≤ fd.n) :
    Rep g { F with ρ := fd.start (.ownI c [] :: ds.map .val), ω := some x :: List.replicate (fd.n - 1) none, me := some x } (L2.start N (.ref x :: ws)) H := by
  have mem : ∀ a : Addr, some a ∈ some x :: List.replicate (fd.n - 1) (none : Option Addr) → a = x := fun a z => by
    rcases List.mem_cons.mp z with e | e
    · cases e; rfl
    · rw [List.mem_replicate] at e
      cases e.2
  have m : Mono (F.plus x).μ ({ F with ρ := fd.start (.ownI c [] :: ds.map .val), ω := some x :: List.replicate (fd.n - 1) none, me := some x } : Fr).μ F.α F.α H H := ⟨fun _ _ h _ _ => h, fun a _ z => by
    rcases z with z | z | z
    · exact .inl (.inl z)
    · exact .inr (.inl z)
    · exact .inl (.inr (mem a z)), fun _ _ h => h⟩
  obtain ⟨n1, n2, n3⟩ := r.nu x (.inr rfl)
  have n2 : x ∉ F.α := n2
  have hll := hv.length
  have sl : (fd.start (.ownI c [] :: ds.map .val)).length = fd.n := start_len (by simpa using hl)
  obtain ⟨dx, hH⟩ := hH
  refine ⟨r.ent, fun a z => ?_, r.al0, ?_, r.nda, fun a z => ⟨(r.nu a (.inl z)).1, (r.nu a (.inl z)).2.1, fun q => ?_⟩, r.tabs, r.alen, fun k o h => ?_, ?_, ?_, fun i s h => ?_, fun i c' fs h => ?_⟩
  · rw [mem a z]; exact ⟨h0, n1, n2⟩
  · have e : (List.replicate (fd.n - 1) (none : Option Addr)).filterMap id = [] := by
      rw [List.filterMap_eq_nil_iff]
      intro y hy
      rw [List.mem_replicate] at hy
      rw [hy.2]
      rfl
    show List.Nodup (x :: (List.replicate (fd.n - 1) (none : Option Addr)).filterMap id)
    rw [e]
    simp
  · rw [mem a q] at z
    exact hx (.inl z)
  · obtain ⟨a, ha, q⟩ := r.objs k o h
    refine ⟨a, ha, ?_⟩
    cases o with
    | lst l =>
      obtain ⟨vs, h1, h2⟩ := q
      exact ⟨vs, h1, m.ats _ _ h2⟩
    | ins c fs =>
      obtain ⟨dx, vs, h1, hl, h2⟩ := q
      exact ⟨dx, vs, h1, hl, m.ats _ _ h2⟩
  · show (fd.start (.ownI c [] :: ds.map .val)).length = (L2.start N (.ref x :: ws)).length
    rw [sl]
    unfold L2.start
    rw [List.length_append, List.length_map, List.length_replicate, List.length_cons]
    omega
  · show (some x :: List.replicate (fd.n - 1) (none : Option Addr)).length = (fd.start (.ownI c [] :: ds.map .val)).length
    rw [sl, List.length_cons, List.length_replicate]
    omega
  · have h : (fd.start (.ownI c [] :: ds.map .val))[i]? = some s := h
    unfold FD.start at h
    cases i with
    | zero =>
      simp at h
      subst h
      exact ⟨x, dx, [], rfl, rfl, by simpa using hH, Nat.zero_le _, rfl⟩
    | succ i =>
      by_cases hi : i < ds.length
      · rw [List.getElem?_append_left (by simp; omega)] at h
        simp only [List.getElem?_cons_succ, List.getElem?_map] at h
        obtain ⟨d, hd, rfl⟩ := Option.map_eq_some_iff.mp h
        obtain ⟨v, h1, h2⟩ := hv.get hd
        refine ⟨v, ?_, m.at _ _ h2⟩
        unfold L2.start
        rw [List.getElem?_append_left (by simp; omega)]
        simp [h1]
      · rw [List.getElem?_append_right (by simp; omega)] at h
        rw [rep_get h]
        trivial
  · have h : (fd.start (.ownI c [] :: ds.map .val))[i]? = some (.ownI c' fs) := h
    unfold FD.start at h
    cases i with
    | zero => rfl
    | succ i =>
      by_cases hi : i < ds.length
      · rw [List.getElem?_append_left (by simp; omega)] at h
        simp only [List.getElem?_cons_succ, List.getElem?_map] at h
        obtain ⟨d, hd, e⟩ := Option.map_eq_some_iff.mp h
        cases e
      · rw [List.getElem?_append_right (by simp; omega)] at h
        cases rep_get h
/-- an __init__'s end -/
theorem out_made {E : XK} {Q : VK} {Fb : Fr} {o : Out} {x : Addr} {c : Nat} (hρ : F.ρ = []) (hω : F.ω = []) (hx : ¬ F.μ x) (hox : Ob H x) (hα : F.α = F.α0) (e1 : Fb.α0 = F.α0) (e2 : Fb.H0 = F.H0) (e3 : Fb.ν = F.ν) (e4 : Fb.α = F.α) (e5 : Fb.me = some x) (e6 : some x ∈ Fb.ω) (p : PostI g Q E F x c (o.made g.PR c)) :
    PostS g E { nx := fun _ H' => Q .non H', rt := Q } Fb H o := by
  have nx : ∀ {F' : Fr} {σ' : L2.St} {H' : Hp}, Lt Fb H F' H' → Rep g F' σ' H' → Nx F.α0 F.H0 F'.α H' := fun {F' σ' H'} l r' => by
    have := r'.ent
    rw [l.a0, l.h0, e1, e2] at this
    exact this
  -- x is in what may be changed at the start, but nothing of others
  have strip : ∀ {F' : Fr} {σ' : L2.St} {H' : Hp}, Lt Fb H F' H' → Rep g F' σ' H' → some x ∈ F'.ω → Rep g ((F.to F'.α F'.st).plus x) [] H' := fun {F' σ' H'} l r' hm => by
    refine r'.strip (by rw [l.a0, e1]) (by rw [l.h0, e2]) rfl rfl hρ hω fun a z => ?_
    rcases z with z | z
    · exact .inl (by rw [l.nu, e3]; exact z)
    · rw [z]; exact .inr hm
  have sub : ∀ {F' : Fr} {H' : Hp}, Lt Fb H F' H' → some x ∈ F'.ω → ∀ a, ((F.to F'.α F'.st).plus x).μ a → F'.μ a := fun {F' H'} l hm a z => by
    rcases z with (z | z) | z | z
    · exact .inl (by rw [l.nu, e3]; exact z)
    · rw [z]; exact .inr (.inr hm)
    · exact .inr (.inl z)
    · have z : some a ∈ F.ω := z
      rw [hω] at z
      cases z
  have out : ∀ {F' : Fr} {σ' : L2.St} {H' : Hp}, Lt Fb H F' H' → Rep g F' σ' H' → some x ∈ F'.ω → ¬ (F.to F'.α F'.st).μ x := fun {F' σ' H'} l r' hm z => by
    rcases z with z | z | z
    · exact hx (.inl z)
    · exact (r'.ow0 x hm).2.2 z
    · have z : some x ∈ F.ω := z
      rw [hω] at z
      cases z
  cases o with
  | nx ρ st =>
    intro F' σ' H' l h1 h2 r'
    simp only [Out.made] at p
    split at p
    case h_2 => exact p.elim
    rename_i c' fs hs
    split at p
    case isFalse => exact p.elim
    rename_i hc
    obtain ⟨rfl, hlen⟩ := hc
    have hs' : F'.ρ[0]? = some (.ownI c' fs) := by rw [h1]; exact hs
    obtain ⟨a, dx, us, hw, hx2, hH2, hle, hat⟩ := r'.slots 0 _ hs'
    have hme := r'.me 0 _ _ hs'
    rw [l.me, e5, hw] at hme
    cases hme
    have hm := join_mem hw
    have q := p H' F'.α dx us (nx l r')
    rw [← h2] at q
    refine q (out l r' hm) (strip l r' hm) ?_ hlen ?_
    · rw [hH2, hlen]
      have : (g.names c').length = (g.PR.flds c').length := by simp
      rw [← this, List.take_length]
    · exact (⟨fun _ _ h _ _ => h, fun a _ z => sub l hm a z, fun _ _ h => h⟩ : Mono F'.μ ((F.to F'.α F'.st).plus x).μ F'.α F'.α H' H').ats _ _ hat
  | rt d st => exact p.elim
  | exc c' d st =>
    intro F' σ' H' v dx l h2 r' hv hd
    have q := p H' F'.α v dx (nx l r')
    rw [← h2] at q
    refine q (r'.strip (by rw [l.a0, e1]) (by rw [l.h0, e2]) rfl rfl hρ hω fun a z => .inl (by rw [l.nu, e3]; exact z)) ((⟨fun _ _ h _ _ => h, fun a _ z => ?_, fun _ _ h => h⟩ : Mono F'.μ (F.to F'.α F'.st).μ F'.α F'.α H' H').at _ _ hv) hd
    rcases z with z | z | z
    · exact .inl (by rw [l.nu, e3]; exact z)
    · exact .inr (.inl z)
    · have z : some a ∈ F.ω := z
      rw [hω] at z
      cases z
  | bad => exact p.elim
end
end Mini
end
section
set_option Elab.async false
set_option linter.all false
set_option maxRecDepth 100000
set_option maxHeartbeats 2000000
/-! # Mini: all defs, all levels -/
namespace Mini
open PySem L2 PySem.Spec PyProof.Rows
section
variable {g : G} {P : Program} {w : World} {mg : Str → Option Value} {base : Heap} {wf : Nat}
theorem init_step (L : Law g P w mg base) {k : Nat} {C : Calls} (Df : DefsG g P w g.K mg base k C) {f c : Nat} {fd : FD} (hf : g.PR.defs f = some fd) {rec : FuncData} {ps : List Str} (T : DefTxt g g.K mg base f fd rec ps) {C' : Calls}
    (hC : ∀ ds st, C'.init c ds st = if ds.length + 1 = fd.np then (exs g.PR C wf fd.body (fd.start (.ownI c [] :: ds.map .val)) st).made g.PR c else .bad) : FnG P w g.K mg base (k + 8) (g.AD.f f) rec ps (spI g C' c) := by
  obtain ⟨name, qual, params, body, scope, dV, kV, doc, pm, cdv, ct, oc, an, od, osl, N, lam, rfl, lk, hcd, S, hN, hok, hlam⟩ := T.ex
  have lenOf : ∀ {F : Fr} {ds : List D} {x : Addr} {Q : VK} {E : XK}, PostI g Q E F x c (C'.init c ds F.st) → ds.length + 1 = fd.np := fun {F ds x Q E} p => by
    rw [hC] at p
    split at p
    · assumption
    · exact p.elim
  refine ⟨fun vs H Q E ⟨F, ds, x, ws, ev, _, _, _, _, _, _, _, hv, p⟩ => ?_, fun A outer s H args us vs Q E hg hr e0 hb hr2 ⟨F, ds, x, ws, ev, hρ, hω, hx, h0, hα, hH, r, hv, p⟩ => ?_⟩
  · rw [ev, List.length_cons, ← hv.length, T.len]
    exact lenOf p
  · have hl := lenOf p
    rw [hC, if_pos hl] at p
    subst ev
    refine LamX.run_ofS (k := k + 7) lk hcd S hr e0 hb hr2 (by rw [List.length_cons, ← hv.length, T.len]; exact hl) fun hr' => ?_
    have h1 : Room (k + 1) (A.deeper (envOfC qual scope s.heap.objs.size (g.AD.f f) cdv)) := hr'.mono (by omega)
    have h2 : Room 2 (A.deeper (envOfC qual scope s.heap.objs.size (g.AD.f f) cdv)) := hr'.mono (by omega)
    have h4 : Room (k + 4) (A.deeper (envOfC qual scope s.heap.objs.size (g.AD.f f) cdv)) := hr'.mono (by omega)
    have tk : Takes (cxOf (L2.CX P w) P w g.K mg base N qual scope (g.AD.f f) cdv A outer s H E) (fun cls d _ H => E cls d H) := takes_of rfl rfl rfl rfl
    have B : Bd g C E (cxOf (L2.CX P w) P w g.K mg base N qual scope (g.AD.f f) cdv A outer s H E) := ⟨rfl, L.txt, hg, S.nd, tk, ⟨k, h1, Df⟩, h2, L.exs⟩
    have LD : lam = true → LamOk g C (cxOf (L2.CX P w) P w g.K mg base N qual scope (g.AD.f f) cdv A outer s H E) := fun hlm => by
      constructor
      · exact ⟨k, h4, Df⟩
      · exact hlam hlm
      · exact L.hand
    have O : XOkS g C E ⟨lam, N, scope, none⟩ (cxOf (L2.CX P w) P w g.K mg base N qual scope (g.AD.f f) cdv A outer s H E) :=
      ⟨⟨B, rfl, rfl, rfl, fun x _ => rfl, LD, L.ty, L.fn⟩, passes_of rfl⟩
    have hox : Ob H x := by
      obtain ⟨dx, hH⟩ := hH
      exact Ob.of hH (fun _ => nofun)
    exact ⟨tSs g C E wf fd.body, soundSs fd.body ⟨lam, N, scope, none⟩ _ E wf body O hok, _, r.enterI hρ hω hx h0 hH hv hN (by rw [hl]; exact T.le), out_made hρ hω hx hox hα rfl rfl rfl rfl rfl List.mem_cons_self p⟩
/-- the classes' __init__ -/
structure Inits (g : G) (mg : Str → Option Value) (base : Heap) : Prop where
  cls : ∀ c, g.PR.flds c ≠ [] → ∃ fd, g.PR.defs (g.PR.ini c) = some fd ∧ Mk g.K (g.AD.c c) (g.AD.f (g.PR.ini c))
theorem all_defs (L : Law g P w mg base) (I : Inits g mg base) : ∀ n, DefsG g P w g.K mg base (8 * n) (callsN g.PR wf n)
  | 0 => by
    refine ⟨fun f hf => ?_, fun c hc => ?_, L.meth⟩
    · obtain ⟨fd, hfd⟩ := Option.isSome_iff_exists.mp hf
      obtain ⟨rec, ps, T⟩ := L.defs f fd hfd
      exact ⟨rec, ps, ⟨fun vs H Q E ⟨_, _, _, _, _, _, p⟩ => p.elim, fun A outer s H args us vs Q E _ _ _ _ _ ⟨_, _, _, _, _, _, p⟩ => p.elim⟩, T.keep, T.binds⟩
    · obtain ⟨fd, hfd, M⟩ := I.cls c hc
      obtain ⟨rec, ps, T⟩ := L.defs _ fd hfd
      exact ⟨_, rec, ps, M, ⟨fun vs H Q E ⟨_, _, _, _, _, _, _, _, _, _, _, _, _, p⟩ => p.elim, fun A outer s H args us vs Q E _ _ _ _ _ ⟨_, _, _, _, _, _, _, _, _, _, _, _, _, p⟩ => p.elim⟩, T.binds⟩
  | n + 1 => by
    have ih := all_defs L I n
    refine ⟨fun f hf => ?_, fun c hc => ?_, L.meth⟩
    · obtain ⟨fd, hfd⟩ := Option.isSome_iff_exists.mp hf
      obtain ⟨rec, ps, T⟩ := L.defs f fd hfd
      exact ⟨rec, ps, def_step (wf := wf) L ih hfd T fun ds st => by simp only [callsN, hfd], T.keep, T.binds⟩
    · obtain ⟨fd, hfd, M⟩ := I.cls c hc
      obtain ⟨rec, ps, T⟩ := L.defs _ fd hfd
      exact ⟨_, rec, ps, M, init_step (wf := wf) L ih hfd T fun ds st => by simp only [callsN, hfd], T.binds⟩
end
end Mini
end
section
set_option Elab.async false
set_option linter.all false
set_option maxRecDepth 100000
set_option maxHeartbeats 2000000
/-! # Mini: the law is called -/
namespace Mini
open PySem L2 PySem.Spec PyProof.Rows LamX
section
variable {g : G} {C : Calls}
/-- the law's answer for a script, from the evaluator's -/
theorem law_sp {f : Nat} {H : Hp} {a : Addr} {ns : List Int} (hT : Tabs g.T H) (hS : ScrA g (fun _ => False) H a (ns.map V.int)) {st : Store} (hv : C.call f [.scr ns] [] = .ok (.bl true) st) : spF g C f [.ref a] H (fun v _ => v = .bl true) fun _ _ _ => False := by
  refine ⟨{ α0 := [], H0 := H, ν := fun _ => False, α := [], ω := [], ρ := [], st := [] }, [.scr ns], rfl, rfl, ?_, ⟨_, _, rfl, ⟨a, rfl, ?_⟩, rfl⟩, ?_⟩
  · refine ⟨Nx.refl _ _, fun b h => by simp at h, fun b h => by simp at h, List.nodup_nil, List.nodup_nil, fun b h => h.elim, hT, rfl, fun k o h => by simp at h, rfl, rfl, fun i s h => by simp at h, fun i c fs h => by simp at h⟩
  · rcases hS with ⟨h, _⟩ | h
    · exact .inl ⟨h, fun z => by rcases z with z | z | z <;> simp at z⟩
    · exact .inr h
  · show PostK g _ _ [] H _ (C.call f [.scr ns] [])
    rw [hv]
    exact fun H' α' _ _ v h => h
end
/-- the law is called where nothing but the script and the tables is tracked; FnG instead of FnOk -/
theorem law_callG {P : Program} {w : World} {K : PySem.W.Frag} {mg mb : Str → Option Value} {k : Nat} {fa a : Addr} {cs : List (Addr × Addr)} {fd : FuncData} {x : Str} {sp : Sp} {s₁ : Shared} {vs : List Value} {ns : List Int}
    (KX : K.In s₁.heap) (hns : s₁.heap.Ns mainGlobals mg) (hb : s₁.heap.Ns builtinsNs mb) (hbb : ∀ x : Str, x ≠ "__name__" → mb x = bootBuiltins x) (hlim : s₁.heap.NoLimit) (hg : s₁.gens = #[])
    (hT : ∀ p ∈ cs, s₁.heap.get? p.2 = some { cls := .none, data := .fields #[] }) (nT : ∀ p ∈ cs, K.lookup p.2 = none) (Cd : ∀ p ∈ cs, PySem.W.CodeHd s₁.heap p.1 p.2)
    (hbm : ∃ (bm : Addr) (ob : Obj), mg "__builtins__" = some (.ref bm) ∧ bm ≠ builtinsNs ∧ s₁.heap.get? bm = some ob ∧ ob.cls = .type "module" ∧ ob.dict = some builtinsNs ∧ ob.data = .plain)
    (ha : s₁.heap.get? a = some { cls := .type "list", data := .seq vs.toArray }) (hi : IntsAre vs ns) (hl : ns.length ≤ sizeLine) (hr : Room k callerA)
    (F : ∀ base : Heap, K.In base → base.Ns mainGlobals mg → (∀ p ∈ cs, TabB base mg p.1 p.2) → FnG P w K mg base k fa fd [x] sp) (hbind : ∀ (s : Shared) (u : Value), BindsTo s fd ⟨[u], []⟩ [(x, u)])
    (hsp : ∀ H : Hp, (∀ p ∈ cs, H p.2 = some (.tbl #[])) → SqL K H a (ns.map V.int) → (Rd H a (.lst (ns.map V.int)) ∨ ∀ H', SqL K H' a (ns.map V.int)) → sp [.ref a] H (fun v _ => v = .bl true) fun _ _ _ => False) :
    codeAny (model P w) callerA (.call (.ref fa) ⟨[.ref a], []⟩) (fun r s' => r = .ok (.ret (.bool true)) ∧ OldK s₁.heap s'.heap ∧ s'.os = s₁.os ∧ AllBare s'.gens) s₁ := by
  have isT : ∀ b : Addr, b ∈ cs.map (·.2) → s₁.heap.get? b = some { cls := .none, data := .fields #[] } := fun b hm => by
    obtain ⟨p, hp, rfl⟩ := List.mem_map.mp hm
    exact hT p hp
  have memT : ∀ p ∈ cs, p.2 ∈ cs.map (·.2) := fun p hp => List.mem_map.mpr ⟨p, hp, rfl⟩
  have aT : a ∉ cs.map (·.2) := fun z => by
    have q := isT a z
    rw [ha] at q
    exact nomatch (congrArg Obj.data (Option.some.inj q) : Data.seq vs.toArray _ = Data.fields #[])
  have rv := vals_ints hi
  -- over a heap that tracks the script and the tables alone
  have over : ∀ H : Hp, (∀ p ∈ cs, H p.2 = some (.tbl #[])) → (∀ b, H b = none ∨ b ∈ cs.map (·.2) ∨ ∃ o xs, H b = some (.frz o (.lst xs))) → (Rd H a (.lst (ns.map V.int)) ∨ ∀ H', SqL K H' a (ns.map V.int)) → HOk P w H s₁.heap → (∀ b, H b ≠ none → b = a ∨ b ∈ cs.map (·.2)) → (H a ≠ none → K.lookup a = none) →
      codeAny (model P w) callerA (.call (.ref fa) ⟨[.ref a], []⟩) (fun r s' => r = .ok (.ret (.bool true)) ∧ OldK s₁.heap s'.heap ∧ s'.os = s₁.os ∧ AllBare s'.gens) s₁ := by
    intro H hH hO hS hok hA hK
    have free : ∀ {b : Addr} {o : Obj}, s₁.heap.get? b = some o → (∀ us n, o.data ≠ .seq us n) → o.data ≠ .fields #[] → H b = none := fun {b o} e n1 n2 => by
      rcases hq : H b with _ | u
      · rfl
      · rcases hA b (by rw [hq]; simp) with rfl | hm
        · rw [ha] at e; cases e; exact absurd rfl (n1 _ _)
        · rw [isT b hm] at e; cases e; exact absurd rfl n2
    have stay : ∀ {b : Addr} {o : Obj}, s₁.heap.get? b = some o → H b = none → (hidT s₁.heap H).get? b = some o := fun e n => hidT_get e n
    have nsK : ∀ {b : Addr} {m : Str → Option Value}, s₁.heap.Ns b m → (hidT s₁.heap H).Ns b m := fun {b m} ⟨o, es, ep, e, d, r⟩ => ⟨o, es, ep, stay e (free e (fun us n z => by rw [d] at z; cases z) (fun z => by rw [d] at z; cases z)), d, r⟩
    have hKb : K.In (hidT s₁.heap H) := fun b o e => stay (KX b o e) (by
      rcases hq : H b with _ | u
      · rfl
      · rcases hA b (by rw [hq]; simp) with rfl | hm
        · rw [hK (by rw [hq]; simp)] at e; cases e
        · obtain ⟨p, hp, rfl⟩ := List.mem_map.mp hm
          rw [nT p hp] at e; cases e)
    have hM : L2.Mod K mg (hidT s₁.heap H) := ⟨hKb, nsK hns, ⟨mb, nsK hb, hbb⟩, let ⟨mc, h1, h2⟩ := hlim; ⟨mc, nsK h1, h2⟩⟩
    have TB : ∀ p ∈ cs, TabB (hidT s₁.heap H) mg p.1 p.2 := fun p hp => by
      have hTp := hT p hp
      refine ⟨?_, ?_, fun z => ?_⟩
      · obtain ⟨o, us, file, tf, flags, tg, inF, text, tt, e1, r1, r2, r3, r⟩ := Cd p hp
        exact ⟨o, us, file, tf, flags, tg, inF, text, tt, stay e1 (free e1 (fun us n z => by rw [r2] at z; cases z) (fun z => by rw [r2] at z; cases z; simp at r3)), r1, r2, r3, r⟩
      · obtain ⟨bm, ob, b1, b2, b3, b4, b5, b6⟩ := hbm
        refine ⟨bm, ob, b1, b2, fun q => ?_, fun q => ?_, stay b3 (free b3 (fun us n z => by rw [b6] at z; cases z) (fun z => by rw [b6] at z; cases z)), b4, b5, b6⟩
        · obtain ⟨o, es, ep, e, hd, _⟩ := hns
          rw [q, e] at b3; cases b3
          rw [hd] at b6; cases b6
        · rw [q, hTp] at b3; cases b3; cases b6
      · obtain ⟨o, es, ep, e, hd, _⟩ := hns
        rw [z, hTp] at e; cases e; cases hd
    have e0 : Env0 P w K mg (hidT s₁.heap H) callerA [] s₁ H := ⟨rfl, hM, fun b o e => of_hidT e, Nat.le_of_eq (hidT_size _ _), trivial, fun b hb => absurd (show b ∈ ([] : List Addr) from hb) (by simp), hok, .of_eq hg⟩
    have hSq : SqL K H a (ns.map V.int) := hS.elim .inl fun h => h H
    refine codeAny_mono ((F _ hKb (nsK hns) TB).run callerA [] s₁ H ⟨[.ref a], []⟩ [.ref a] [.ref a] _ _ rfl hr e0 (hbind s₁ (.ref a)) (.cons rfl .nil) (hsp H hH hSq hS)) fun r s' h => ?_
    rcases r with e | fl
    · obtain ⟨_, _, _, _, _, _, _, _, _, _, _, _, z⟩ := h
      exact z.elim
    · cases fl with
      | next => exact False.elim h
      | brk => exact False.elim h
      | cont => exact False.elim h
      | ret u =>
        obtain ⟨v, H', os, bare, un, hok', r', rfl⟩ := h
        obtain rfl : u = Value.bool true := r'
        have kept : ∀ b o, b ∉ cs.map (·.2) → s₁.heap.get? b = some o → s'.heap.get? b = some o := fun b o nb e => by
          rcases hO b with z | z | ⟨ob, xs, z⟩
          · exact un.keep b o e z (fun z => nomatch (show b ∈ ([] : List Addr) from z)) (by simp)
          · exact absurd z nb
          · obtain ⟨e1, _⟩ := hok b _ z
            obtain ⟨e2, _⟩ := hok' b _ (un.frzs b ob _ z)
            rw [e] at e1; cases e1
            exact e2
        have grown : ∀ p ∈ cs, ∃ more : Array Value, s'.heap.get? p.2 = some { cls := .none, data := .fields more } := fun p hp =>
          let ⟨more, z⟩ := un.tbls p.2 #[] (hH p hp)
          ⟨_, hok' p.2 _ z⟩
        refine ⟨rfl, ⟨fun b o e => ?_, fun b o e => ?_⟩, os, bare⟩
        · by_cases hm : b ∈ cs.map (·.2)
          · obtain ⟨p, hp, rfl⟩ := List.mem_map.mp hm
            obtain ⟨more, hmo⟩ := grown p hp
            rw [hT p hp] at e; cases e
            exact .inr (.inl ⟨((Cd p hp).tab (hT p hp)).isCodeTable, rfl, #[], more, rfl, by rw [Array.empty_append]; exact hmo⟩)
          · exact .inl (kept b o hm e)
        · by_cases hm : b ∈ cs.map (·.2)
          · obtain ⟨p, hp, rfl⟩ := List.mem_map.mp hm
            obtain ⟨more, hmo⟩ := grown p hp
            exact ⟨_, hmo⟩
          · exact ⟨o, kept b o hm e⟩
  have lenV := hi.length
  -- the tables' own heap
  let HT : Hp := fun b => if b ∈ cs.map (·.2) then some (.tbl #[]) else none
  have htIn : ∀ {b}, b ∈ cs.map (·.2) → HT b = some (.tbl #[]) := fun {b} h => if_pos h
  have htOut : ∀ {b}, b ∉ cs.map (·.2) → HT b = none := fun {b} h => if_neg h
  cases hk : K.lookup a with
  | some o =>
    have e := KX a o hk
    rw [ha] at e
    cases e
    refine over HT (fun p hp => htIn (memT p hp)) (fun b => ?_) (.inr fun H' => .inr ⟨_, vs.toArray, _, hk, rfl, rfl, rfl, by rw [List.size_toArray, lenV]; exact hl, by simpa using rv⟩) (fun b u z => ?_) (fun b z => ?_) fun z => absurd (htOut aT) z
    · by_cases hm : b ∈ cs.map (·.2)
      · exact .inr (.inl hm)
      · exact .inl (htOut hm)
    · by_cases hm : b ∈ cs.map (·.2)
      · rw [htIn hm] at z; cases z
        exact isT b hm
      · rw [htOut hm] at z; cases z
    · by_cases hm : b ∈ cs.map (·.2)
      · exact .inr hm
      · exact absurd (htOut hm) z
  | none =>
    have ua : upd HT a (.frz { cls := .type "list", data := .seq vs.toArray } (.lst (ns.map V.int))) a = some (.frz { cls := .type "list", data := .seq vs.toArray } (.lst (ns.map V.int))) := upd_same
    refine over (upd HT a (.frz { cls := .type "list", data := .seq vs.toArray } (.lst (ns.map V.int)))) (fun p hp => ?_) (fun b => ?_) (.inl (.inr ⟨_, ua⟩)) (fun b u z => ?_) (fun b z => ?_) fun _ => hk
    · rw [upd_ne (fun e => aT (by rw [← e]; exact memT p hp))]
      exact htIn (memT p hp)
    · by_cases hb : b = a
      · subst hb
        exact .inr (.inr ⟨_, _, ua⟩)
      · rw [upd_ne hb]
        by_cases hm : b ∈ cs.map (·.2)
        · exact .inr (.inl hm)
        · exact .inl (htOut hm)
    · by_cases hb : b = a
      · subst hb
        rw [ua] at z; cases z
        exact ⟨ha, by rw [List.length_map]; exact hl, vs, _, rv, ha⟩
      · rw [upd_ne hb] at z
        by_cases hm : b ∈ cs.map (·.2)
        · rw [htIn hm] at z; cases z
          exact isT b hm
        · rw [htOut hm] at z; cases z
    · by_cases hb : b = a
      · exact .inl hb
      · rw [upd_ne hb] at z
        by_cases hm : b ∈ cs.map (·.2)
        · exact .inr hm
        · exact absurd (htOut hm) z
/-- what is known of the law's promise at the head's heap h -/
def LawAtG (l : PySem.W.OpenLaw) (w : World) (K : PySem.W.Frag) (k n : Nat) (x : Str) (mg : Str → Option Value) (fa : Addr) (h : Heap) : Prop :=
  ∃ (fd : FuncData) (cs : List (Addr × Addr)) (sp : Sp), (∀ p ∈ cs, h.get? p.2 = some { cls := .none, data := .fields #[] }) ∧ (∀ p ∈ cs, K.lookup p.2 = none) ∧ (∀ p ∈ cs, PySem.W.CodeHd h p.1 p.2) ∧ (∀ (s : Shared) (u : Value), BindsTo s fd ⟨[u], []⟩ [(x, u)]) ∧
    (∀ (H : Hp) (a : Addr) (ns : List Int), ns.length ≤ n → (∀ z ∈ ns, Builtin.Int.intBits z ≤ 1048576) → (∀ p ∈ cs, H p.2 = some (.tbl #[])) → (Rd H a (.lst (ns.map V.int)) ∨ ∀ H', SqL K H' a (ns.map V.int)) → sp [.ref a] H (fun v _ => v = .bl true) fun _ _ _ => False) ∧
    ∀ base : Heap, K.In base → base.Ns mainGlobals mg → (∀ p ∈ cs, TabB base mg p.1 p.2) → FnG l.prog w K mg base k fa fd [x] sp
theorem walk_ofG {l : PySem.W.OpenLaw} {n k : Nat} {q : Program} {loose : List Str} {XP : (Str → Option Value) → Heap → Prop} {YP : World → Heap → Prop} {d : DefRec} {x : Str}
    (hn : l.most = some n) (hn2 : n ≤ sizeLine) (hdf : d.params.defaults = []) (hr : Room k callerA)
    (F : ∀ (w : World) (mg : Str → Option Value) (fa : Addr) (h : Heap), YP w h → h.Ns mainGlobals mg → mg d.name = some (.ref fa) → ∃ K : PySem.W.Frag, K.In h ∧ LawAtG l w K k n x mg fa h) :
    PySem.W.WalkO q loose XP YP l.row.toRowW d [] (fun f vs => PySem.call f vs) := by
  refine Att.attach_callB hn hdf fun w s₀ s₁ mg mb fa o pm cd doc a vs ns G Y ho hd hcd hmg hobj hints hlen hbits hg => ?_
  obtain ⟨K, KX, fd, cs, sp, hT, nT, Cd, hb, hsp, hF⟩ := F w mg fa _ Y G.T.g hmg
  exact law_callG KX G.T.g G.T.b G.T.builtins G.T.nolimit hg hT nT Cd G.T.bmain hobj hints (Nat.le_trans hlen hn2) hr hF hb fun H hH _ hS => hsp H a ns hlen hbits hH hS
end Mini
end
section
set_option Elab.async false
set_option linter.all false
set_option maxRecDepth 100000
set_option maxHeartbeats 2000000
/-! # Mini: from the head's facts to the law's -/
namespace Mini
open PySem L2 PySem.Spec PyProof.Rows
/-- a def of the text -/
structure DT where
  f : Nat
  at_ : Str × Option Str
  name : Str
  qual : Str
  st : Stmt
  N : List Str
  ps : List Str
  lam : Bool
def DT.d (t : DT) : He.DefD := ⟨t.at_, t.name, t.qual, defArgs t.st, defBody t.st, defScope t.st, [], []⟩
def DT.q (t : DT) : Str := (envOfC t.qual (defScope t.st) 0 0 .none).qual ++ "<lambda>"
def fnScB (N P : List Str) (sc : Scope) : Bool :=
  decide (sc.kind = .function) && !sc.isCoroutine && !sc.isGenerator && decide N.Nodup && decide (N.take P.length = P) &&
    (P.all fun x => decide (sc.names.lookup x = some .local) || decide (sc.names.lookup x = some .cell)) && sc.names.all fun y => decide (y.2 ≠ .free)
theorem fnScB_ok {N P : List Str} {sc : Scope} (h : fnScB N P sc = true) : FnScope N P sc := by
  unfold fnScB at h
  simp only [Bool.and_eq_true, List.all_eq_true, decide_eq_true_eq, Bool.not_eq_true', Bool.or_eq_true] at h
  obtain ⟨⟨⟨⟨⟨⟨h1, h2⟩, h3⟩, h4⟩, h5⟩, h6⟩, h7⟩ := h
  exact ⟨h1, h2, h3, h4, h5, h6, h7⟩
/-- an own exception's class -/
def oexB (K : PySem.W.Frag) (C : Addr) : Bool := (match K.lookup C with
  | some ⟨.type "type", _, .cls cd, sl⟩ => (match cd.mro, sl.toList with
    | .ref C' :: bm, [_, _, _, _, some (.builtin n), _] => C' == C && n == "ValueError.__new__" && !cd.hasDel && cd.hasDict && PySem.HandSPX.refsVE bm
    | _, _ => false)
  | _ => false) && (decide (PySem.W.findIn K (.ref C) "__setattr__" = some (some (.builtin "object.__setattr__"))) && (decide (PySem.W.subIn K (.ref C) (.type "BaseException") = some true) &&
    (decide (PySem.W.typeIn K (.ref C) = some (.type "type")) && PySem.W.keepIn K (.ref C))))
theorem oexB_ok {K : PySem.W.Frag} {C : Addr} (h : oexB K C = true) : OexC K C := by
  unfold oexB at h
  obtain ⟨h1, h⟩ := Bool.and_eq_true_iff.mp h
  obtain ⟨h2, h⟩ := Bool.and_eq_true_iff.mp h
  obtain ⟨h3, h⟩ := Bool.and_eq_true_iff.mp h
  obtain ⟨h4, h5⟩ := Bool.and_eq_true_iff.mp h
  refine ⟨?_, of_decide_eq_true h2, of_decide_eq_true h3, of_decide_eq_true h4, h5⟩
  split at h1
  · rename_i dd cd sl ho
    split at h1
    · rename_i C' bm k0 k1 k2 k3 n k5 hm hs
      simp only [Bool.and_eq_true, beq_iff_eq, Bool.not_eq_true'] at h1
      obtain ⟨⟨⟨⟨rfl, rfl⟩, hdel⟩, hdd⟩, ht⟩ := h1
      obtain ⟨nm, bs, mro, ns, qn, hd, sn, sub, ab, col, del⟩ := cd
      dsimp only at hm hdel hdd
      subst hm hdel hdd
      have hsl : sl = #[k0, k1, k2, k3, some (.builtin "ValueError.__new__"), k5] := by
        obtain ⟨l⟩ := sl
        simp only at hs
        rw [hs]
      subst hsl
      exact ⟨nm, qn, ns, bs, bm, sn, sub, ab, col, dd, k0, k1, k2, k3, k5, ho, ht⟩
    · cases h1
  · cases h1
/-! ### the text's tables -/
structure TX where
  fdl : List (Option FD)
  fll : List (List Nat)
  inl : List Nat
  tab : List DT
  gil : List (Str × Int)
  cln : List Str
  exn : List Str
  fln : List Str
  mtn : List Str
  mtl : List ((Nat × Nat) × Nat)
  hnd : List (Nat × Clauses)
  chl : List Bool
  base : Str
def TX.pr (t : TX) : Prog where
  defs f := (t.fdl[f]?).join
  flds c := (t.fll[c]?).getD []
  ini c := (t.inl[c]?).getD 0
  chg c := (t.chl[c]?).getD false
  meth c m := t.mtl.lookup (c, m)
  hand f := t.hnd.lookup f
def TX.topB (t : TX) (f : Nat) : Bool := match t.tab[f]? with
  | some d => d.at_.2.isNone
  | none => false
def TX.nm (t : TX) : Nm where
  fn f := match t.tab[f]? with
    | some d => d.name
    | none => ""
  cls c := (t.cln[c]?).getD ""
  exc c := (t.exn[c]?).getD ""
  fld f := (t.fln[f]?).getD ""
  met m := (t.mtn[m]?).getD ""
  gi x := t.gil.lookup x
  nE := t.exn.length
  top f := t.topB f
def TX.lams (t : TX) : List DT := t.tab.filter (·.lam)
def TX.tf (t : TX) : List He.Defn := t.lams.map (·.at_)
def TX.g (t : TX) (K : PySem.W.Frag) : G where
  PR := t.pr
  NM := t.nm
  AD := { f := fun f => match t.tab[f]? with
            | some d => He.fAd K d.at_
            | none => 0
          c := fun c => He.ga K ((t.cln[c]?).getD "")
          e := fun c => He.ga K ((t.exn[c]?).getD "") }
  K := K
  T := t.lams.map fun d => ((He.cT K d.at_).2, d.q)
def blts : List Str := ["len", "int", "tuple", "list", "sorted", "all", "any", "sum", "max", "min", "range", "enumerate", "zip", "isinstance", "repr", "str", "set", "bool", "dict"]
def TX.fas (t : TX) : List (List He.Fa) := [blts.map He.Fa.free, t.gil.map fun q => He.Fa.int q.1 q.2, t.cln.map He.Fa.cls, t.cln.map He.Fa.mkr, t.cln.map He.Fa.glo, t.exn.map He.Fa.glo,
  (t.tab.filter fun d => d.at_.2.isNone).map fun d => He.Fa.glo d.name, t.mtl.map fun q => He.Fa.meth ((t.cln[q.1.1]?).getD "") ((t.mtn[q.1.2]?).getD ""),
  (List.range t.cln.length).flatMap fun c => ((t.fll[c]?).getD []).map fun f => He.Fa.noat ((t.cln[c]?).getD "") ((t.fln[f]?).getD "")]
def TX.fa (t : TX) : List He.Fa := t.fas.flatten
theorem TX.fa_mem {t : TX} {f : He.Fa} (i : Nat) {l : List He.Fa} (h : t.fas[i]? = some l) (hf : f ∈ l) : f ∈ t.fa := List.mem_flatten.mpr ⟨l, List.mem_of_getElem? h, hf⟩
/-- the base error's __init__ -/
def TX.dB (t : TX) (st : Stmt) : He.DefD := ⟨(t.base, some "__init__"), "__init__", t.base ++ ".__init__", defArgs st, defBody st, defScope st, [.non], []⟩
def kds (t : TX) : List Kd := [.non, .bl, .int, .str, .lst, .tup, .dic] ++ (List.range t.cln.length).map .ins
def tys (t : TX) : List Ty := [.int, .bool, .str, .list, .tuple, .dict] ++ (List.range t.cln.length).map .cls
/-- the rest, of what is looked at -/
def TX.ex (t : TX) (K : PySem.W.Frag) : Bool :=
  ((List.range t.cln.length).all fun c => He.eqO (PySem.W.findIn K (.ref ((t.g K).AD.c c)) "__class__") (some (some (.builtin "object.__class__"))) && decide (PySem.W.mroIn K ((t.g K).AD.c c) (.type "object") = some true)) &&
  (He.eqO (PySem.W.specialIn K (.builtin "object.__class__") "__get__") (some (some (.builtin "getset_descriptor.__get__"))) && decide (PySem.W.takesIn K (.builtin "object.__class__") = some true)) &&
  ((kds t).all fun k => (tys t).all fun y => decide (PySem.W.kitOne K (kdV (t.g K) k) (tyV (t.g K) y) = some (tyK k y))) &&
  ((List.range t.exn.length).all fun c => oexB K ((t.g K).AD.e c) && He.eqO (PySem.W.findIn K (.ref ((t.g K).AD.e c)) "value") (some none) && xfB K ((t.g K).AD.e c) &&
    He.eqO (PySem.W.findIn K (.ref ((t.g K).AD.e c)) "__init__") (some (some (.ref (He.fAd K (t.base, some "__init__")))))) &&
  ((List.range t.exn.length).all fun c => (List.range t.exn.length).all fun c' => decide (PySem.W.exmOne K (.ref ((t.g K).AD.e c)) (.ref ((t.g K).AD.e c')) = some (c == c'))) &&
  decide (PySem.W.typeIn K (.ref (He.fAd K (t.base, some "__init__"))) = some (.type "function")) &&
  ((t.g K).T.all fun p => (t.g K).T.all fun q => !decide (p.1 = q.1) || decide (p.2 = q.2))
/-- what the text alone tells of a def -/
def TX.okD (t : TX) (g : G) (i : Nat) (d : DT) : Bool := decide (d.f = i) && (match (t.fdl[i]?).join with
  | some fd => fnScB d.N d.ps (defScope d.st) && decide (d.N.length = fd.n) && decide (d.ps.length = fd.np) && decide (fd.np ≤ fd.n) && okSs g ⟨d.lam, d.N, defScope d.st, none⟩ fd.body (defBody d.st)
  | none => true)
/-- how a def's arguments bind -/
def BindsD (st : Stmt) (ps : List Str) : Prop := ∀ (name qual : Str) (body : List Stmt) (scope : Scope) (kV doc pm : Value) (an : Option Addr) (cdv ct : Value) (us : List Value), us.length = ps.length → bindArgs (PySem.W.fnOf name qual (defArgs st) body scope .none kV doc pm an cdv ct) ⟨us, []⟩ = pure (ps.zip us)
/-- what the text alone tells of f(lambda: ..) -/
def TX.okH (t : TX) (g : G) (q : Nat × Clauses) : Bool := (match t.tab[q.1]? with
  | some d => (match d.at_.2 with
    | none => true
    | some _ => false) && decide (d.at_.1 = d.name) && decide (d.qual = d.name) && (match d.N, d.ps with
    | [a, n], [a'] => decide (a = a') && fnScB [a, n] [a] (defScope d.st) && visB (defScope d.st) a && decide ((defScope d.st).names.lookup n = some .local) && okHand g (defScope d.st) a n q.2 (defBody d.st) && dbg n && dbg a
    | _, _ => false)
  | none => false) && q.2.all fun z => decide (z.1 < t.exn.length)
/-- what the text alone tells -/
def TX.okT (t : TX) : Bool :=
  decide (t.fdl.length = t.tab.length) && decide (t.fll.length = t.cln.length) && decide (t.inl.length = t.cln.length) &&
  (t.tab.all fun d => match d.at_.2 with
    | none => decide (d.at_.1 = d.name)
    | some _ => true) &&
  (t.fll.all fun fs => decide fs.Nodup && decide (fs.length < 1000) && (fs.all fun f => decide (f < t.fln.length)) && !fs.isEmpty) && decide t.fln.Nodup &&
  (t.mtl.all fun q => decide (q.1.1 < t.cln.length) && (match t.tab[q.2]? with
    | some d => decide (d.at_ = ((t.cln[q.1.1]?).getD "", some ((t.mtn[q.1.2]?).getD "")))
    | none => false) && ((t.fdl[q.2]?).join).isSome && !(((t.fll[q.1.1]?).getD []).map fun f => ((t.fln[f]?).getD "" : Str)).contains ((t.mtn[q.1.2]?).getD ("" : Str))) &&
  ((List.range t.cln.length).all fun c => (match t.tab[(t.inl[c]?).getD 0]? with
    | some d => decide (d.at_ = ((t.cln[c]?).getD "", some ("__init__" : Str)))
    | none => false) && ((t.fdl[(t.inl[c]?).getD 0]?).join).isSome)
/-- all that the text tells -/
structure TX.Says (t : TX) (stB : Stmt) : Prop where
  ok : t.okT = true
  defs : ∀ K, ((List.range t.tab.length).all fun i => match t.tab[i]? with
    | some d => t.okD (t.g K) i d
    | none => true) = true
  hand : ∀ K, (t.hnd.all fun q => t.okH (t.g K) q) = true
  binds : ∀ d ∈ t.tab, BindsD d.st d.ps
  ini : ∃ p1 p2 p3 pos, defBody stB = [.Assign [.Attribute (.Name "self" p1) "value" p2] (.Name "value" p3) pos]
  iniS : fnScB ["self", "value"] ["self", "value"] (defScope stB) = true
  iniB : ∀ (name qual : Str) (body : List Stmt) (scope : Scope) (T : Addr) (kV doc pm : Value) (an : Option Addr) (cdv ct : Value) (us its : List Value), us.length = 2 → its.length = 1 →
      ∃ k, bindArgs (PySem.W.fnOf name qual (defArgs stB) body scope (.ref T) kV doc pm an cdv ct) ⟨us, []⟩ = seqItems? (.ref T) >>= k ∧ k (some its.toArray) = pure ((["self", "value"] : List Str).zip (us ++ its.drop 1))
section
variable {t : TX} {stB : Stmt} {P : Program} {w : World} {K : PySem.W.Frag} {mg : Str → Option Value} {base h : Heap}
theorem adf {f : Nat} {d : DT} (e : t.tab[f]? = some d) : (t.g K).AD.f f = He.fAd K d.at_ := by
  simp only [TX.g, e]
theorem allR {n : Nat} {p : Nat → Bool} (h : (List.range n).all p = true) {i : Nat} (hi : i < n) : p i = true := List.all_eq_true.mp h i (List.mem_range.mpr hi)
theorem init_ok {x qual : Str} {params : Arguments} {body : List Stmt} {scope : Scope} {dvs : List V} {kws : List (Str × V)} {f : Addr} {fd : FuncData} (F : FunD K x qual params body scope dvs kws f fd) {p1 p2 p3 pos : Pos} (hb : body = [.Assign [.Attribute (.Name "self" p1) "value" p2] (.Name "value" p3) pos]) (S : FnScope ["self", "value"] ["self", "value"] scope) :
    FnOk P w K mg base (L2.CX P w) 1 f fd ["self", "value"] (spX K) := by
  subst hb
  refine F.ok S (fun vs H Q E h => ?_) (fun cdv A outer s H vs Q E hr h => ⟨_, pss_one (ps_ost (pe_var (i := 0) (x := "self") rfl ?_) (pe_var (i := 1) (x := "value") rfl ?_)), ?_⟩)
  · obtain ⟨a, Cc, v, rfl, _⟩ := h
    rfl
  · exact S.par "self" (by simp) |>.elim .inl (fun z => .inr (.inl z))
  · exact S.par "value" (by simp) |>.elim .inl (fun z => .inr (.inl z))
  · obtain ⟨a, Cc, v, rfl, hO, hno, hH, hQ⟩ := h
    exact ⟨v, rfl, .ref a, rfl, a, Cc, rfl, hO, hno, .inl ⟨hH, fun dx h1 h2 => hQ dx h1 h2⟩⟩
end
end Mini
end
section
set_option Elab.async false
set_option linter.all false
set_option maxRecDepth 100000
set_option maxHeartbeats 2000000
/-! # Mini: the law's facts from the head's -/
namespace Mini
open PySem L2 PySem.Spec PyProof.Rows
theorem lookup_memG {α β : Type} [BEq α] [LawfulBEq α] {a : α} {b : β} : ∀ {l : List (α × β)}, l.lookup a = some b → (a, b) ∈ l
  | [], h => by cases h
  | (x, y) :: r, h => by
    rw [List.lookup_cons] at h
    split at h
    · rename_i e
      cases h
      rw [beq_iff_eq.mp e]
      exact List.mem_cons_self
    · exact List.mem_cons_of_mem _ (lookup_memG h)
theorem getD_mem {α : Type} {l : List α} {i : Nat} {x : α} (h : i < l.length) : (l[i]?).getD x ∈ l := by
  rw [List.getElem?_eq_getElem h]
  exact List.getElem_mem h
section
variable {t : TX} {stB : Stmt} {P : Program} {w : World} {K : PySem.W.Frag} {mg : Str → Option Value} {base h : Heap}
/-- what the head tells -/
abbrev TX.Tells (t : TX) (stB : Stmt) (w : World) (h : Heap) (K : PySem.W.Frag) : Prop := He.SaysX t.fa (t.tab.map DT.d ++ [t.dB stB]) [] t.tf t.ex w h K
structure TX.Ex (t : TX) (K : PySem.W.Frag) : Prop where
  own : ∀ c, c < t.cln.length → PySem.W.findIn K (.ref ((t.g K).AD.c c)) "__class__" = some (some (.builtin "object.__class__")) ∧ PySem.W.mroIn K ((t.g K).AD.c c) (.type "object") = some true
  ob : PySem.W.specialIn K (.builtin "object.__class__") "__get__" = some (some (.builtin "getset_descriptor.__get__")) ∧ PySem.W.takesIn K (.builtin "object.__class__") = some true
  kit : ∀ k ∈ kds t, ∀ y ∈ tys t, PySem.W.kitOne K (kdV (t.g K) k) (tyV (t.g K) y) = some (tyK k y)
  exc : ∀ c, c < t.exn.length → OexC K ((t.g K).AD.e c) ∧ PySem.W.findIn K (.ref ((t.g K).AD.e c)) "value" = some none ∧ XfC K ((t.g K).AD.e c) ∧ PySem.W.findIn K (.ref ((t.g K).AD.e c)) "__init__" = some (some (.ref (He.fAd K (t.base, some "__init__"))))
  exm : ∀ c, c < t.exn.length → ∀ c', c' < t.exn.length → PySem.W.exmOne K (.ref ((t.g K).AD.e c)) (.ref ((t.g K).AD.e c')) = some (c == c')
  ini : PySem.W.typeIn K (.ref (He.fAd K (t.base, some "__init__"))) = some (.type "function")
  one : ∀ p ∈ (t.g K).T, ∀ q ∈ (t.g K).T, p.1 = q.1 → p.2 = q.2
theorem ex_ok (e : t.ex K = true) : t.Ex K := by
  unfold TX.ex at e
  obtain ⟨e, e7⟩ := Bool.and_eq_true_iff.mp e
  obtain ⟨e, e6⟩ := Bool.and_eq_true_iff.mp e
  obtain ⟨e, e5⟩ := Bool.and_eq_true_iff.mp e
  obtain ⟨e, e4⟩ := Bool.and_eq_true_iff.mp e
  obtain ⟨e, e3⟩ := Bool.and_eq_true_iff.mp e
  obtain ⟨e1, e2⟩ := Bool.and_eq_true_iff.mp e
  refine ⟨fun c hc => ?_, ?_, fun k hk y hy => ?_, fun c hc => ?_, fun c hc c' hc' => ?_, of_decide_eq_true e6, fun p hp q hq e => ?_⟩
  · obtain ⟨h1, h2⟩ := Bool.and_eq_true_iff.mp (allR e1 hc)
    exact ⟨He.eqO_ok h1, of_decide_eq_true h2⟩
  · obtain ⟨h1, h2⟩ := Bool.and_eq_true_iff.mp e2
    exact ⟨He.eqO_ok h1, of_decide_eq_true h2⟩
  · exact of_decide_eq_true (List.all_eq_true.mp (List.all_eq_true.mp e3 k hk) y hy)
  · obtain ⟨h, h4⟩ := Bool.and_eq_true_iff.mp (allR e4 hc)
    obtain ⟨h, h3⟩ := Bool.and_eq_true_iff.mp h
    obtain ⟨h1, h2⟩ := Bool.and_eq_true_iff.mp h
    exact ⟨oexB_ok h1, He.eqO_ok h2, xfB_ok h3, He.eqO_ok h4⟩
  · exact of_decide_eq_true (allR (allR e5 hc) hc')
  · have z := List.all_eq_true.mp (List.all_eq_true.mp e7 p hp) q hq
    simp only [Bool.or_eq_true, Bool.not_eq_true', decide_eq_false_iff_not, decide_eq_true_eq] at z
    exact z.elim (fun n => absurd e n) id
/-- the text's facts, apart -/
structure TX.Tx (t : TX) : Prop where
  l1 : t.fdl.length = t.tab.length
  l2 : t.fll.length = t.cln.length
  l3 : t.inl.length = t.cln.length
  top : ∀ d ∈ t.tab, d.at_.2 = none → d.at_ = (d.name, none)
  fld : ∀ fs ∈ t.fll, fs.Nodup ∧ fs.length < 1000 ∧ ∀ f ∈ fs, f < t.fln.length
  fln : t.fln.Nodup
  mtl : ∀ q ∈ t.mtl, q.1.1 < t.cln.length ∧ (∃ d, t.tab[q.2]? = some d ∧ d.at_ = ((t.cln[q.1.1]?).getD "", some ((t.mtn[q.1.2]?).getD ""))) ∧ ((t.fdl[q.2]?).join).isSome = true ∧ ((t.mtn[q.1.2]?).getD ("" : Str)) ∉ (((t.fll[q.1.1]?).getD []).map fun f => ((t.fln[f]?).getD "" : Str)) ∧ (t.fll[q.1.1]?).getD [] ≠ []
  inl : ∀ c, c < t.cln.length → (∃ d, t.tab[(t.inl[c]?).getD 0]? = some d ∧ d.at_ = ((t.cln[c]?).getD "", some ("__init__" : Str))) ∧ ((t.fdl[(t.inl[c]?).getD 0]?).join).isSome = true
theorem okT_ok (e : t.okT = true) : t.Tx := by
  unfold TX.okT at e
  obtain ⟨e, e8⟩ := Bool.and_eq_true_iff.mp e
  obtain ⟨e, e7⟩ := Bool.and_eq_true_iff.mp e
  obtain ⟨e, e6⟩ := Bool.and_eq_true_iff.mp e
  obtain ⟨e, e5⟩ := Bool.and_eq_true_iff.mp e
  obtain ⟨e, e4⟩ := Bool.and_eq_true_iff.mp e
  obtain ⟨e, e3⟩ := Bool.and_eq_true_iff.mp e
  obtain ⟨e1, e2⟩ := Bool.and_eq_true_iff.mp e
  have l2 := of_decide_eq_true e2
  have fl : ∀ fs ∈ t.fll, (fs.Nodup ∧ fs.length < 1000 ∧ ∀ f ∈ fs, f < t.fln.length) ∧ fs ≠ [] := fun fs hfs => by
    have z := List.all_eq_true.mp e5 fs hfs
    simp only [Bool.and_eq_true, decide_eq_true_eq, List.all_eq_true, Bool.not_eq_true', List.isEmpty_eq_false_iff] at z
    exact ⟨⟨z.1.1.1, z.1.1.2, z.1.2⟩, z.2⟩
  refine ⟨of_decide_eq_true e1, l2, of_decide_eq_true e3, fun d hd hn => ?_, fun fs hfs => (fl fs hfs).1, of_decide_eq_true e6, fun q hq => ?_, fun c hc => ?_⟩
  · have z := List.all_eq_true.mp e4 d hd
    rw [hn] at z
    exact Prod.ext (of_decide_eq_true z) hn
  · have z := List.all_eq_true.mp e7 q hq
    obtain ⟨z, z4⟩ := Bool.and_eq_true_iff.mp z
    obtain ⟨z, z3⟩ := Bool.and_eq_true_iff.mp z
    obtain ⟨z1, z2⟩ := Bool.and_eq_true_iff.mp z
    have hlt := of_decide_eq_true z1
    refine ⟨hlt, ?_, z3, fun hm => ?_, (fl _ (getD_mem (by rw [l2]; exact hlt))).2⟩
    · split at z2
      · rename_i d hd
        exact ⟨d, hd, of_decide_eq_true z2⟩
      · cases z2
    · rw [List.contains_iff_mem.mpr hm] at z4
      cases z4
  · obtain ⟨z1, z2⟩ := Bool.and_eq_true_iff.mp (allR e8 hc)
    refine ⟨?_, z2⟩
    split at z1
    · rename_i d hd
      exact ⟨d, hd, of_decide_eq_true z1⟩
    · cases z1
variable (S : t.Says stB) (X : K.In h) (G : h.Ns mainGlobals mg) (c : t.Tells stB w h K)
include S c
theorem def_of (TB : ∀ p ∈ t.tf.map (He.cT K), LamX.TabB base mg p.1 p.2) {f : Nat} {fd : FD} {d : DT} {rec : FuncData} (hf' : (t.fdl[f]?).join = some fd) (hd : t.tab[f]? = some d) (F : FunD K d.name d.qual (defArgs d.st) (defBody d.st) (defScope d.st) [] [] (He.fAd K d.at_) rec) : DefTxt (t.g K) K mg base f fd rec d.ps := by
  have hlt : f < t.tab.length := (List.getElem?_eq_some_iff.mp hd).1
  have hdm : d ∈ t.tab := List.mem_of_getElem? hd
  have k := allR (S.defs K) hlt
  simp only [hd] at k
  unfold TX.okD at k
  obtain ⟨_, k⟩ := Bool.and_eq_true_iff.mp k
  simp only [hf'] at k
  obtain ⟨k, k5⟩ := Bool.and_eq_true_iff.mp k
  obtain ⟨k, k4⟩ := Bool.and_eq_true_iff.mp k
  obtain ⟨k, k3⟩ := Bool.and_eq_true_iff.mp k
  obtain ⟨k1, k2⟩ := Bool.and_eq_true_iff.mp k
  have b : Binds K rec d.ps [] := FunD.bindsN F fun kV doc pm an cdv ct us hl => S.binds d hdm _ _ _ _ _ _ _ _ _ _ us hl
  have kp := F.kp
  obtain ⟨oc, od, dV, kV, doc, pm, an, cdv, ct, osl, rfl, lk, hcd, hD, hK⟩ := F.ex
  refine ⟨⟨d.name, d.qual, defArgs d.st, defBody d.st, defScope d.st, dV, kV, doc, pm, cdv, ct, oc, an, od, osl, d.N, d.lam, rfl, ?_, hcd, fnScB_ok k1, of_decide_eq_true k2, k5, fun hl => ?_⟩, of_decide_eq_true k3, of_decide_eq_true k4, ?_, b⟩
  · rw [adf hd]
    exact lk
  · obtain ⟨a, ea⟩ := He.codeIn_ref hcd
    have ec : He.codeOf K d.at_ = a := He.codeOf_eq lk ea
    have hmem : d ∈ t.lams := List.mem_filter.mpr ⟨hdm, hl⟩
    have hT : ((He.cT K d.at_).2, d.q) ∈ (t.g K).T := List.mem_map.mpr ⟨d, hmem, rfl⟩
    refine ⟨a, (He.cT K d.at_).2, ea, ?_, hT, fun p hp e => ?_⟩
    · have := TB (He.cT K d.at_) (List.mem_map.mpr ⟨d.at_, List.mem_map.mpr ⟨d, hmem, rfl⟩, rfl⟩)
      rw [show (He.cT K d.at_).1 = a from ec] at this
      exact this
    · exact (ex_ok c.more).one p hp _ hT e
  · rw [adf hd]
    exact kp
theorem defs_of (TB : ∀ p ∈ t.tf.map (He.cT K), LamX.TabB base mg p.1 p.2) {f : Nat} {fd : FD} (hf : (t.g K).PR.defs f = some fd) : ∃ rec ps, DefTxt (t.g K) K mg base f fd rec ps := by
  have Tx := okT_ok S.ok
  have hf' : (t.fdl[f]?).join = some fd := hf
  have hlt : f < t.tab.length := by
    rw [← Tx.l1]
    rcases Nat.lt_or_ge f t.fdl.length with z | z
    · exact z
    · rw [List.getElem?_eq_none z] at hf'
      cases hf'
  obtain ⟨d, hd⟩ : ∃ d, t.tab[f]? = some d := ⟨_, List.getElem?_eq_getElem hlt⟩
  have hdm : d ∈ t.tab := List.mem_of_getElem? hd
  obtain ⟨rec, F⟩ := c.t.d.defs (d := d.d) (List.mem_append.mpr (.inl (List.mem_map.mpr ⟨d, hdm, rfl⟩)))
  exact ⟨rec, d.ps, def_of S c TB hf' hd F⟩
theorem hand_of {f : Nat} {cl : Clauses} (hf : (t.g K).PR.hand f = some cl) (X : K.In h) (G : h.Ns mainGlobals mg) : HandG (t.g K) K mg f cl := by
  have Tx := okT_ok S.ok
  have k := List.all_eq_true.mp (S.hand K) (f, cl) (lookup_memG hf)
  unfold TX.okH at k
  obtain ⟨k, kl⟩ := Bool.and_eq_true_iff.mp k
  split at k
  case h_2 => cases k
  rename_i d hd
  obtain ⟨k, k4⟩ := Bool.and_eq_true_iff.mp k
  obtain ⟨k, k3⟩ := Bool.and_eq_true_iff.mp k
  obtain ⟨k1, k2⟩ := Bool.and_eq_true_iff.mp k
  have hdm : d ∈ t.tab := List.mem_of_getElem? hd
  have hn : d.at_.2 = none := by
    split at k1
    · assumption
    · cases k1
  have ha := Tx.top d hdm hn
  split at k4
  case h_2 => cases k4
  rename_i a n a' hN hps
  obtain ⟨k4, m7⟩ := Bool.and_eq_true_iff.mp k4
  obtain ⟨k4, m6⟩ := Bool.and_eq_true_iff.mp k4
  obtain ⟨k4, m5⟩ := Bool.and_eq_true_iff.mp k4
  obtain ⟨k4, m4⟩ := Bool.and_eq_true_iff.mp k4
  obtain ⟨k4, m3⟩ := Bool.and_eq_true_iff.mp k4
  obtain ⟨m1, m2⟩ := Bool.and_eq_true_iff.mp k4
  have ea := of_decide_eq_true m1
  subst ea
  obtain ⟨rec, F⟩ := c.t.d.defs (d := d.d) (List.mem_append.mpr (.inl (List.mem_map.mpr ⟨d, hdm, rfl⟩)))
  have b : Binds K rec d.ps [] := FunD.bindsN F fun kV doc pm an cdv ct us hl => S.binds d hdm _ _ _ _ _ _ _ _ _ _ us hl
  have kp := F.kp
  have eq := of_decide_eq_true k3
  have en : (t.g K).NM.fn f = d.name := by
    show (match t.tab[f]? with | some d => d.name | none => "") = d.name
    rw [hd]
  obtain ⟨oc, od, dV, kV, doc, pm, an, cdv, ct, osl, rfl, lk, hcd, hD, hK⟩ := F.ex
  have eq' : d.d.qual = d.name := eq
  rw [eq'] at lk hcd b
  refine ⟨⟨defArgs d.st, defBody d.st, defScope d.st, dV, kV, doc, pm, cdv, ct, oc, an, od, osl, a, n, ?_, ?_, ?_, fnScB_ok m2, visB_ok m3, of_decide_eq_true m4, m5, (dbg_ok m6).1, (dbg_ok m6).2, (dbg_ok m7).1, (dbg_ok m7).2⟩, ?_, ?_, fun q hq => of_decide_eq_true (List.all_eq_true.mp kl q hq)⟩
  · rw [adf hd, en]
    exact lk
  · rw [en]
    exact hcd
  · rw [en]
    rw [hps] at b
    exact b
  · rw [adf hd]
    exact kp
  · rw [en, adf hd, ha]
    exact He.glo_ok X G (c.t.d.facts (TX.fa_mem 6 rfl (List.mem_map.mpr ⟨d, List.mem_filter.mpr ⟨hdm, by rw [hn]; rfl⟩, rfl⟩)))
end
end Mini
end
section
set_option Elab.async false
set_option linter.all false
set_option maxRecDepth 100000
set_option maxHeartbeats 2000000
/-! # Mini: the law's facts from the head's, put together -/
namespace Mini
open PySem L2 PySem.Spec PyProof.Rows
theorem getD_inj {l : List Str} (hl : l.Nodup) {i j : Nat} (hi : i < l.length) (hj : j < l.length) (e : ((l[i]?).getD "" : Str) = (l[j]?).getD "") : i = j := by
  rw [List.getElem?_eq_getElem hi, List.getElem?_eq_getElem hj] at e
  exact (List.getElem_inj hl).mp e
section
variable {t : TX} {stB : Stmt} {P : Program} {w : World} {K : PySem.W.Frag} {mg : Str → Option Value} {base h : Heap}
variable (S : t.Says stB) (X : K.In h) (G : h.Ns mainGlobals mg) (c : t.Tells stB w h K)
include S
theorem clsLt {i : Nat} (hi : (t.g K).PR.flds i ≠ []) : i < t.cln.length := by
  have Tx := okT_ok S.ok
  rw [← Tx.l2]
  rcases Nat.lt_or_ge i t.fll.length with z | z
  · exact z
  · have e : (t.g K).PR.flds i = [] := by
      show (t.fll[i]?).getD [] = []
      rw [List.getElem?_eq_none z]
      rfl
    exact absurd e hi
theorem fldsIn {i f : Nat} (hf : f ∈ (t.g K).PR.flds i) : f < t.fln.length := by
  have Tx := okT_ok S.ok
  have hi : i < t.cln.length := clsLt S (K := K) (fun e => by rw [e] at hf; cases hf)
  exact (Tx.fld _ (getD_mem (x := []) (i := i) (by rw [Tx.l2]; exact hi))).2.2 f hf
include X G c
theorem txt_of : Txt (t.g K) mg := by
  have Tx := okT_ok S.ok
  refine ⟨fun x hx => ?_, fun x i hx => ?_, fun i hi => ?_, fun i f hf => ?_, fun i f f' h1 h2 e => ?_, fun i => ?_, fun i => ?_⟩
  · exact He.free_ok X G (c.t.d.facts (TX.fa_mem 0 rfl (List.mem_map.mpr ⟨x, hx, rfl⟩)))
  · exact He.int_ok X G (c.t.d.facts (TX.fa_mem 1 rfl (List.mem_map.mpr ⟨(x, i), lookup_memG hx, rfl⟩)))
  · exact He.cls_ok (c.t.d.facts (TX.fa_mem 2 rfl (List.mem_map.mpr ⟨_, getD_mem (clsLt S hi), rfl⟩)))
  · have hi : i < t.cln.length := clsLt S (K := K) (fun e => by rw [e] at hf; cases hf)
    exact He.noat_ok (c.t.d.facts (TX.fa_mem 8 rfl (List.mem_flatMap.mpr ⟨i, List.mem_range.mpr hi, List.mem_map.mpr ⟨f, hf, rfl⟩⟩)))
  · exact getD_inj Tx.fln (fldsIn S (K := K) h1) (fldsIn S (K := K) h2) e
  · show ((t.fll[i]?).getD []).Nodup
    rcases Nat.lt_or_ge i t.fll.length with z | z
    · exact (Tx.fld _ (getD_mem (x := []) z)).1
    · rw [List.getElem?_eq_none z]
      exact List.nodup_nil
  · show ((t.fll[i]?).getD []).length < 1000
    rcases Nat.lt_or_ge i t.fll.length with z | z
    · exact (Tx.fld _ (getD_mem (x := []) z)).2.1
    · rw [List.getElem?_eq_none z]
      decide
theorem ty_of : TyG (t.g K) K mg := by
  have Ex := ex_ok c.more
  refine ⟨fun i hi => Ex.own i (clsLt S hi), Ex.ob, fun k y hk hy => ?_, fun i hi => ?_⟩
  · refine Ex.kit k ?_ y ?_
    · unfold kds
      rw [List.mem_append]
      cases k with
      | ins i => exact .inr (List.mem_map.mpr ⟨i, List.mem_range.mpr (clsLt S (hk i rfl)), rfl⟩)
      | _ => exact .inl (by simp)
    · unfold tys
      rw [List.mem_append]
      cases y with
      | cls i => exact .inr (List.mem_map.mpr ⟨i, List.mem_range.mpr (clsLt S (hy i rfl)), rfl⟩)
      | _ => exact .inl (by simp)
  · exact He.glo_ok X G (c.t.d.facts (TX.fa_mem 4 rfl (List.mem_map.mpr ⟨_, getD_mem (clsLt S hi), rfl⟩)))
theorem fn_of_top (f : Nat) (hf : (t.g K).NM.top f = true) : mg ((t.g K).NM.fn f) = some (.ref ((t.g K).AD.f f)) := by
  have Tx := okT_ok S.ok
  have hf : (match t.tab[f]? with | some d => d.at_.2.isNone | none => false) = true := hf
  split at hf
  case h_2 => cases hf
  rename_i d hd
  have hdm := List.mem_of_getElem? hd
  have hn : d.at_.2 = none := Option.isNone_iff_eq_none.mp hf
  have en : (t.g K).NM.fn f = d.name := by
    show (match t.tab[f]? with | some d => d.name | none => "") = d.name
    rw [hd]
  rw [en, adf hd, Tx.top d hdm hn]
  exact He.glo_ok X G (c.t.d.facts (TX.fa_mem 6 rfl (List.mem_map.mpr ⟨d, List.mem_filter.mpr ⟨hdm, hf⟩, rfl⟩)))
theorem exs_of : ExG (t.g K) P w K mg base := by
  have Ex := ex_ok c.more
  obtain ⟨rec, F⟩ := c.t.d.defs (d := t.dB stB) (List.mem_append.mpr (.inr (List.mem_singleton.mpr rfl)))
  obtain ⟨p1, p2, p3, pos, hb⟩ := S.ini
  refine ⟨⟨_, rec, ["self", "value"], Ex.ini, init_ok F hb (fnScB_ok S.iniS), ?_, fun i hi => (Ex.exc i hi).2.2.2⟩, fun i hi => ⟨(Ex.exc i hi).1, (Ex.exc i hi).2.1, (Ex.exc i hi).2.2.1⟩, fun i i' hi hi' => Ex.exm i hi i' hi', fun i hi => ?_⟩
  · obtain ⟨ds, hd, b⟩ := FunD.binds1 F (ps := ["self", "value"]) 2 1 (List.cons_ne_nil _ _) rfl (fun T kV doc pm an cdv ct us its hu hi => S.iniB _ _ _ _ T kV doc pm an cdv ct us its hu hi)
    cases hd
    exact b
  · exact He.glo_ok X G (c.t.d.facts (TX.fa_mem 5 rfl (List.mem_map.mpr ⟨_, getD_mem (x := ("" : Str)) hi, rfl⟩)))
theorem meth_of (i m f : Nat) (hm : (t.g K).PR.meth i m = some f) : ((t.g K).PR.defs f).isSome = true ∧ Cls K ((t.g K).AD.c i) ∧ Meth K ((t.g K).AD.c i) ((t.g K).NM.met m) ((t.g K).AD.f f) ∧ (t.g K).NM.met m ∉ (t.g K).names i := by
  have Tx := okT_ok S.ok
  have hq := lookup_memG (show t.mtl.lookup (i, m) = some f from hm)
  obtain ⟨h1, ⟨d, hd, ha⟩, h3, h4, h5⟩ := Tx.mtl _ hq
  refine ⟨h3, He.cls_ok (c.t.d.facts (TX.fa_mem 2 rfl (List.mem_map.mpr ⟨_, getD_mem h1, rfl⟩))), ?_, h4⟩
  have z := He.meth_ok (c.t.d.facts (TX.fa_mem 7 rfl (List.mem_map.mpr ⟨_, hq, rfl⟩)))
  rw [adf hd, ha]
  exact z
theorem law_of (TB : ∀ p ∈ t.tf.map (He.cT K), LamX.TabB base mg p.1 p.2) : Law (t.g K) P w mg base :=
  ⟨txt_of S X G c, ty_of S X G c, fn_of_top S X G c, fun f cl hf => hand_of S c hf X G, exs_of S X G c, meth_of S X G c, fun f fd hf => defs_of S c TB hf⟩
omit X G in
theorem inits_of : Inits (t.g K) mg base := by
  have Tx := okT_ok S.ok
  refine ⟨fun i hi => ?_⟩
  have hl := clsLt S hi
  obtain ⟨⟨d, hd, ha⟩, hf⟩ := Tx.inl i hl
  obtain ⟨fd, hfd⟩ := Option.isSome_iff_exists.mp hf
  refine ⟨fd, hfd, ?_⟩
  have z := He.mkr_ok (c.t.d.facts (TX.fa_mem 3 rfl (List.mem_map.mpr ⟨(t.cln[i]?).getD "", getD_mem hl, rfl⟩)))
  rw [show (t.g K).AD.f ((t.g K).PR.ini i) = He.fAd K d.at_ from adf hd, ha]
  exact z
end
section
open LamX
/-- the law's end: n levels -/
theorem lawAt_of {t : TX} {stB : Stmt} {l : PySem.W.OpenLaw} {w : World} {K : PySem.W.Frag} {mg : Str → Option Value} {h : Heap} (S : t.Says stB) (X : K.In h) (G : h.Ns mainGlobals mg) (c : t.Tells stB w h K) {m wf f : Nat} {d : DT} {x : Str} {fd : FD} {fa : Addr}
    (hd : t.tab[f]? = some d) (hps : d.ps = [x]) (hfd : (t.fdl[f]?).join = some fd) (hn : d.at_ = (("law" : Str), none)) (hfa : mg ("law" : Str) = some (.ref fa))
    (hlaw : ∀ ns : List Int, ns.length ≤ 63 → (∀ z ∈ ns, Builtin.Int.intBits z ≤ 1048576) → ∃ st, (callsN t.pr wf (m + 1)).call f [.scr ns] [] = .ok (.bl true) st) : LawAtG l w K (8 * m + 8) 63 x mg fa h := by
  have hdm := List.mem_of_getElem? hd
  have Tx := okT_ok S.ok
  have LW : ∀ base : Heap, (∀ p ∈ t.tf.map (He.cT K), TabB base mg p.1 p.2) → DefsG (t.g K) l.prog w K mg base (8 * m) (callsN t.pr wf m) := fun base TB => all_defs (law_of S X G c TB) (inits_of S c) m
  obtain ⟨rec, F⟩ := c.t.d.defs (d := d.d) (List.mem_append.mpr (.inl (List.mem_map.mpr ⟨d, hdm, rfl⟩)))
  have lk : ∃ oc od osl, K.lookup (He.fAd K d.at_) = some ⟨oc, od, .func rec, osl⟩ := by
    obtain ⟨oc, od, dV, kV, doc, pm, an, cdv, ct, osl, rfl, lk, _⟩ := F.ex
    exact ⟨oc, od, osl, lk⟩
  have hfa' : fa = He.fAd K d.at_ := by
    have e := fn_of_top S X G c f (by
      show (match t.tab[f]? with | some d => d.at_.2.isNone | none => false) = true
      rw [hd]
      show d.at_.2.isNone = true
      rw [hn]
      rfl)
    have en : (t.g K).NM.fn f = ("law" : Str) := by
      show (match t.tab[f]? with | some d => d.name | none => "") = ("law" : Str)
      rw [hd]
      have := Tx.top d hdm (by rw [hn])
      rw [hn] at this
      exact (Prod.mk.inj this).1.symm
    rw [en, hfa, adf hd] at e
    cases e
    rfl
  refine ⟨rec, t.tf.map (He.cT K), spF (t.g K) (callsN t.pr wf (m + 1)) f, fun p hp => ?_, fun p hp => ?_, fun p hp => ?_, fun s u => ?_, fun H a ns hl hb hH hS => ?_, fun base _ _ TB => ?_⟩
  · obtain ⟨q, hq, rfl⟩ := List.mem_map.mp hp
    exact c.empty q hq
  · obtain ⟨q, hq, rfl⟩ := List.mem_map.mp hp
    exact c.out q hq
  · obtain ⟨q, hq, rfl⟩ := List.mem_map.mp hp
    exact PySem.W.codeHd_of_K X (c.hd q hq)
  · have b := FunD.bindsA F (ps := d.ps) (fun kV doc pm an cdv ct us hl => S.binds d hdm _ _ _ _ _ _ _ _ _ _ us hl) s [u] (by rw [hps]; rfl)
    rw [hps] at b
    exact b
  · obtain ⟨st, e⟩ := hlaw ns hl hb
    refine law_sp (st := st) (fun p hp => ?_) (hS.elim (fun h => .inl ⟨h, id⟩) .inr) e
    obtain ⟨q, hq, rfl⟩ := List.mem_map.mp hp
    have hm : He.cT K q.at_ ∈ t.tf.map (He.cT K) := List.mem_map.mpr ⟨q.at_, List.mem_map.mpr ⟨q, hq, rfl⟩, rfl⟩
    refine ⟨#[], hH _ hm, trivial, fun pos cv e => ?_⟩
    cases e
  · have z := def_step (wf := wf) (law_of S X G c TB) (LW base TB) (show (t.g K).PR.defs f = some fd from hfd) (def_of S c TB hfd hd F) (C' := callsN t.pr wf (m + 1)) fun ds st => by simp only [callsN, show t.pr.defs f = some fd from hfd]; rfl
    rw [hps, adf hd, ← hfa'] at z
    exact z
end
end Mini
end
section
set_option Elab.async false
set_option maxRecDepth 100000
set_option linter.all false
/-! # the program, as Mini text (printed by gen.py) -/
namespace Mini.P
open Mini PySem
/-- 0: is_integer(thing) -/
def d_is_integer (I : Ix) : FD := ⟨1, 1, [.ret (.and (.isi (.var 0) [.int]) (.not (.isi (.var 0) [.bool])))]⟩
/-- 1: is_within(thing, least, most) -/
def d_is_within (I : Ix) : FD := ⟨3, 3, [.ret (.and (.call (I.fn 0) [.var 0]) (.chn .le .le (.var 1) (.var 0) (.var 2)))]⟩
/-- 2: is_row(thing) -/
def d_is_row (I : Ix) : FD := ⟨1, 1, [.ret (.isi (.var 0) [.list, .tuple])]⟩
/-- 3: is_tuple_of(thing, many) -/
def d_is_tuple_of (I : Ix) : FD := ⟨2, 2, [.ret (.and (.isi (.var 0) [.tuple]) (.cmp .eq (.bi .len [.var 0]) (.var 1)))]⟩
/-- 4: is_set(thing, most, one, other) -/
def d_is_set (I : Ix) : FD := ⟨4, 2, [.if_ (.or (.not (.isi (.var 0) [.tuple])) (.not (.bi .all [.comp (.call (I.fn 1) [.var 2, .k (.int 0), .var 1]) (.nm 2) .seq [.var 0] (.k (.bl true))]))) [.ret (.k (.bl false))] [], .ret (.bi .all [.comp (.cmp .lt (.var 2) (.var 3)) (.tup [.nm 2, .nm 3]) .zip [.var 0, .sl (.var 0) (.k (.int 1)) (.k .non)] (.k (.bl true))])]⟩
/-- 5: rows_of(some, many, found, _, longer, row, one) -/
def d_rows_of (I : Ix) : FD := ⟨7, 2, [.set (.nm 2) (.lst [.tup []]), .for_ (.nm 3) .rng [.var 1] [.set (.own 4) (.lst []), .for_ (.nm 5) .seq [.var 2] [.extd 4 (.comp (.bin .add (.var 5) (.tup [.var 6])) (.nm 6) .seq [.var 0] (.k (.bl true)))], .frz 4, .set (.nm 2) (.var 4)], .ret (.var 2)]⟩
/-- 6: Make.__init__(self, pins, depths, most) -/
def d_Make_init (I : Ix) : FD := ⟨4, 4, [.if_ (.not (.call (I.fn 1) [.var 1, .k (.int 1), .gi "MOST_PINS" 3])) [.rai (I.exc 0) (.var 1)] [], .if_ (.not (.call (I.fn 1) [.var 2, .k (.int 1), .gi "MOST_DEPTHS" 4])) [.rai (I.exc 1) (.var 2)] [], .if_ (.not (.call (I.fn 1) [.var 3, .k (.int 1), .var 2])) [.rai (I.exc 2) (.var 3)] [], .set (.fld 0 0) (.var 1), .set (.fld 0 1) (.var 2), .set (.fld 0 2) (.var 3)]⟩
/-- 7: check_make(make) -/
def d_check_make (I : Ix) : FD := ⟨1, 1, [.if_ (.not (.isi (.var 0) [.cls (I.cls 0)])) [.rai (I.exc 3) (.var 0)] []]⟩
/-- 8: is_key(make, thing, one) -/
def d_is_key (I : Ix) : FD := ⟨3, 2, [.ex (.call (I.fn 7) [.var 0]), .ret (.and (.call (I.fn 3) [.var 1, .fld (.var 0) 0]) (.bi .all [.comp (.call (I.fn 1) [.var 2, .k (.int 0), .bin .sub (.fld (.var 0) 1) (.k (.int 1))]) (.nm 2) .seq [.var 1] (.k (.bl true))]))]⟩
/-- 9: check_key(make, key) -/
def d_check_key (I : Ix) : FD := ⟨2, 2, [.if_ (.not (.call (I.fn 8) [.var 0, .var 1])) [.rai (I.exc 4) (.var 1)] []]⟩
/-- 10: is_lock(make, thing, one) -/
def d_is_lock (I : Ix) : FD := ⟨3, 2, [.ex (.call (I.fn 7) [.var 0]), .if_ (.not (.call (I.fn 3) [.var 1, .fld (.var 0) 0])) [.ret (.k (.bl false))] [], .ret (.bi .all [.comp (.and (.call (I.fn 4) [.var 2, .bin .sub (.fld (.var 0) 1) (.k (.int 1))]) (.cmp .le (.bi .len [.var 2]) (.fld (.var 0) 2))) (.nm 2) .seq [.var 1] (.k (.bl true))])]⟩
/-- 11: check_lock(make, lock) -/
def d_check_lock (I : Ix) : FD := ⟨2, 2, [.if_ (.not (.call (I.fn 10) [.var 0, .var 1])) [.rai (I.exc 5) (.var 1)] []]⟩
/-- 12: check_locks(make, locks, index, lock) -/
def d_check_locks (I : Ix) : FD := ⟨4, 2, [.ex (.call (I.fn 7) [.var 0]), .if_ (.or (.not (.call (I.fn 2) [.var 1])) (.cmp .gt (.bi .len [.var 1]) (.gi "MOST_LOCKS" 8))) [.rai (I.exc 6) (.neg (.k (.int 1)))] [], .for_ (.tup [.nm 2, .nm 3]) .enum [.var 1] [.if_ (.not (.call (I.fn 10) [.var 0, .var 3])) [.rai (I.exc 6) (.var 2)] []]]⟩
/-- 13: all_keys(make) -/
def d_all_keys (I : Ix) : FD := ⟨1, 1, [.ex (.call (I.fn 7) [.var 0]), .ret (.call (I.fn 5) [.bi .lrange [.fld (.var 0) 1], .fld (.var 0) 0])]⟩
/-- 14: fits(key, lock, depth, pin) -/
def d_fits (I : Ix) : FD := ⟨4, 2, [.ret (.bi .all [.comp (.cmp .isin (.var 2) (.var 3)) (.tup [.nm 2, .nm 3]) .zip [.var 0, .var 1] (.k (.bl true))])]⟩
/-- 15: opens(make, key, lock) -/
def d_opens (I : Ix) : FD := ⟨3, 3, [.ex (.call (I.fn 9) [.var 0, .var 1]), .ex (.call (I.fn 11) [.var 0, .var 2]), .ret (.call (I.fn 14) [.var 1, .var 2])]⟩
/-- 16: doors_of(make, key, locks, number, lock) -/
def d_doors_of (I : Ix) : FD := ⟨5, 3, [.ex (.call (I.fn 9) [.var 0, .var 1]), .ex (.call (I.fn 12) [.var 0, .var 2]), .ret (.comp (.var 3) (.tup [.nm 3, .nm 4]) .enum [.var 2] (.call (I.fn 14) [.var 1, .var 4]))]⟩
/-- 17: count_keys(make, lock, found, pin) -/
def d_count_keys (I : Ix) : FD := ⟨4, 2, [.ex (.call (I.fn 11) [.var 0, .var 1]), .set (.nm 2) (.k (.int 1)), .for_ (.nm 3) .seq [.var 1] [.aug 2 .mul (.bi .len [.var 3])], .ret (.var 2)]⟩
/-- 18: least_lock(make, keys, key, pin) -/
def d_least_lock (I : Ix) : FD := ⟨4, 2, [.ex (.call (I.fn 7) [.var 0]), .for_ (.nm 2) .seq [.var 1] [.ex (.call (I.fn 9) [.var 0, .var 2])], .ret (.bi .tuple [.comp (.bi .tuple [.bi .sortedset [.comp (.ix (.var 2) (.var 3)) (.nm 2) .seq [.var 1] (.k (.bl true))]]) (.nm 3) .rng [.fld (.var 0) 0] (.k (.bl true))])]⟩
/-- 19: is_shut(make, lock) -/
def d_is_shut (I : Ix) : FD := ⟨2, 2, [.ret (.cmp .eq (.call (I.fn 17) [.var 0, .var 1]) (.k (.int 0)))]⟩
/-- 20: common_keys(make, lock, other, key) -/
def d_common_keys (I : Ix) : FD := ⟨4, 3, [.ex (.call (I.fn 11) [.var 0, .var 1]), .ex (.call (I.fn 11) [.var 0, .var 2]), .ret (.comp (.var 3) (.nm 3) .seq [.call (I.fn 13) [.var 0]] (.and (.call (I.fn 14) [.var 3, .var 1]) (.call (I.fn 14) [.var 3, .var 2])))]⟩
/-- 21: _law_taken(row, many, found, cell) -/
def d__law_taken (I : Ix) : FD := ⟨4, 2, [.if_ (.cmp .gt (.ix (.var 0) (.k (.int 3))) (.k (.int 0))) [.set (.nm 2) (.bin .md (.bi .int [.ix (.var 0) (.k (.int 3))]) (.var 1)), .six 0 (.k (.int 3)) (.bin .fdiv (.ix (.var 0) (.k (.int 3))) (.var 1)), .ret (.var 2)] [], .six 0 (.k (.int 1)) (.bin .add (.ix (.var 0) (.k (.int 1))) (.k (.int 1))), .if_ (.cmp .gt (.ix (.var 0) (.k (.int 1))) (.bi .len [.ix (.var 0) (.k (.int 0))])) [.six 0 (.k (.int 2)) (.bin .md (.bi .int [.bin .add (.bin .mul (.ix (.var 0) (.k (.int 2))) (.k (.int 48271))) (.k (.int 11))]) (.k (.int 2147483647))), .ret (.bin .md (.bi .int [.bin .fdiv (.ix (.var 0) (.k (.int 2))) (.k (.int 7))]) (.var 1))] [], .set (.nm 3) (.ix (.ix (.var 0) (.k (.int 0))) (.bin .sub (.ix (.var 0) (.k (.int 1))) (.k (.int 1)))), .six 0 (.k (.int 2)) (.bin .md (.bi .int [.bin .add (.bin .add (.bin .mul (.ix (.var 0) (.k (.int 2))) (.k (.int 48271))) (.var 3)) (.k (.int 11))]) (.k (.int 2147483647))), .if_ (.cmp .ge (.var 3) (.bin .pow (.k (.int 10)) (.k (.int 18)))) [.six 0 (.k (.int 3)) (.bin .fdiv (.var 3) (.var 1))] [], .ret (.bin .md (.bi .int [.var 3]) (.var 1))]⟩
/-- 22: _law_pick(row, some) -/
def d__law_pick (I : Ix) : FD := ⟨2, 2, [.ret (.ix (.var 1) (.call (I.fn 21) [.var 0, .bi .len [.var 1]]))]⟩
/-- 23: _law_alike(found, due, k, key) -/
def d__law_alike (I : Ix) : FD := ⟨4, 2, [.if_ (.isi (.var 1) [.tuple, .list]) [.if_ (.or (.not (.isi (.var 0) [.tuple, .list])) (.cmp .ne (.isi (.var 0) [.list]) (.isi (.var 1) [.list]))) [.ret (.k (.bl false))] [], .if_ (.cmp .ne (.bi .len [.var 0]) (.bi .len [.var 1])) [.ret (.k (.bl false))] [], .ret (.cmp .eq (.comp (.var 2) (.nm 2) .rng [.bi .len [.var 1]] (.not (.call (I.fn 23) [.ix (.var 0) (.var 2), .ix (.var 1) (.var 2)]))) (.lst []))] [], .if_ (.isi (.var 1) [.dict]) [.if_ (.or (.not (.isi (.var 0) [.dict])) (.cmp .ne (.bi .list [.var 0]) (.bi .list [.var 1]))) [.ret (.k (.bl false))] [], .ret (.cmp .eq (.comp (.var 3) (.nm 3) .seq [.var 1] (.not (.call (I.fn 23) [.ix (.var 0) (.var 3), .ix (.var 1) (.var 3)]))) (.lst []))] [], .if_ (.or (.cmp .is (.var 1) (.k .non)) (.isi (.var 1) [.str])) [.ret (.and (.cmp .eq (.var 0) (.var 1)) (.cmp .eq (.isi (.var 0) [.str]) (.isi (.var 1) [.str])))] [], .ret (.and (.isi (.var 0) [.int]) (.and (.cmp .eq (.isi (.var 0) [.bool]) (.isi (.var 1) [.bool])) (.cmp .eq (.var 0) (.var 1))))]⟩
/-- 24: _law_unlike(things, found, one) -/
def d__law_unlike (I : Ix) : FD := ⟨3, 1, [.set (.own 1) (.lst []), .for_ (.nm 2) .seq [.bi .sorted [.bi .list [.var 0]]] [.if_ (.or (.cmp .eq (.bor 1) (.lst [])) (.cmp .ne (.ix (.bor 1) (.neg (.k (.int 1)))) (.var 2))) [.app 1 (.var 2)] []], .frz 1, .ret (.var 1)]⟩
/-- 25: _law_shuffled(row, things, found, thing, at) -/
def d__law_shuffled (I : Ix) : FD := ⟨5, 2, [.set (.nm 2) (.lst []), .for_ (.nm 3) .seq [.var 1] [.set (.nm 4) (.call (I.fn 21) [.var 0, .bin .add (.bi .len [.var 2]) (.k (.int 1))]), .set (.nm 2) (.bin .add (.bin .add (.sl (.var 2) (.k .non) (.var 4)) (.lst [.var 3])) (.sl (.var 2) (.var 4) (.k .non)))], .ret (.var 2)]⟩
/-- 26: _law_number(thing, many) -/
def d__law_number (I : Ix) : FD := ⟨2, 2, [.ret (.and (.isi (.var 0) [.int]) (.and (.not (.isi (.var 0) [.bool])) (.chn .le .lt (.k (.int 0)) (.var 0) (.var 1))))]⟩
/-- 27: _law_make(row, pins, depths) -/
def d__law_make (I : Ix) : FD := ⟨3, 1, [.set (.tup [.nm 1, .nm 2]) (.call (I.fn 22) [.var 0, .lst [.tup [.k (.int 1), .k (.int 2)], .tup [.k (.int 1), .k (.int 3)], .tup [.k (.int 2), .k (.int 2)], .tup [.k (.int 2), .k (.int 2)], .tup [.k (.int 2), .k (.int 3)], .tup [.k (.int 3), .k (.int 2)], .tup [.k (.int 1), .k (.int 4)]]]), .ret (.tup [.var 1, .var 2, .call (I.fn 22) [.var 0, .lst [.var 2, .var 2, .bin .add (.k (.int 1)) (.call (I.fn 21) [.var 0, .var 2])]]])]⟩
/-- 28: _law_keys(make, found, pin, longer, one, depth) -/
def d__law_keys (I : Ix) : FD := ⟨6, 1, [.set (.nm 1) (.lst [.tup []]), .for_ (.nm 2) .rng [.ix (.var 0) (.k (.int 0))] [.set (.nm 3) (.lst []), .for_ (.nm 4) .seq [.var 1] [.set (.nm 3) (.bin .add (.var 3) (.comp (.bin .add (.var 4) (.tup [.var 5])) (.nm 5) .rng [.ix (.var 0) (.k (.int 1))] (.k (.bl true))))], .set (.nm 1) (.var 3)], .ret (.var 1)]⟩
/-- 29: _law_least(make, keys, key, pin) -/
def d__law_least (I : Ix) : FD := ⟨4, 2, [.ret (.bi .tuple [.comp (.bi .tuple [.call (I.fn 24) [.comp (.ix (.var 2) (.var 3)) (.nm 2) .seq [.var 1] (.k (.bl true))]]) (.nm 3) .rng [.ix (.var 0) (.k (.int 0))] (.k (.bl true))])]⟩
/-- 30: _law_fits(key, lock, pin) -/
def d__law_fits (I : Ix) : FD := ⟨3, 2, [.ret (.cmp .eq (.comp (.var 2) (.nm 2) .rng [.bi .len [.var 1]] (.cmp .notin (.ix (.var 0) (.var 2)) (.ix (.var 1) (.var 2)))) (.lst []))]⟩
/-- 31: _law_bad_make(row) -/
def d__law_bad_make (I : Ix) : FD := ⟨1, 1, [.ret (.call (I.fn 22) [.var 0, .lst [.k .non, .k (.int 3), .tup [.k (.int 2), .k (.int 2), .k (.int 2)], .k (.str "make"), .lst [], .edic]])]⟩
/-- 32: _law_lock(row, make, found, pin, some) -/
def d__law_lock (I : Ix) : FD := ⟨5, 2, [.set (.nm 2) (.tup []), .for_ (.nm 3) .rng [.ix (.var 1) (.k (.int 0))] [.set (.nm 4) (.sl (.call (I.fn 25) [.var 0, .bi .lrange [.ix (.var 1) (.k (.int 1))]]) (.k .non) (.call (I.fn 22) [.var 0, .lst [.ix (.var 1) (.k (.int 2)), .ix (.var 1) (.k (.int 2)), .k (.int 1), .call (I.fn 21) [.var 0, .bin .add (.ix (.var 1) (.k (.int 2))) (.k (.int 1))]]])), .set (.nm 2) (.bin .add (.var 2) (.tup [.bi .tuple [.bi .sorted [.var 4]]]))], .ret (.var 2)]⟩
/-- 33: _law_good_lock(make, thing, pin, one) -/
def d__law_good_lock (I : Ix) : FD := ⟨4, 2, [.if_ (.or (.not (.isi (.var 1) [.tuple])) (.cmp .ne (.bi .len [.var 1]) (.ix (.var 0) (.k (.int 0))))) [.ret (.k (.bl false))] [], .for_ (.nm 2) .seq [.var 1] [.if_ (.or (.not (.isi (.var 2) [.tuple])) (.cmp .gt (.bi .len [.var 2]) (.ix (.var 0) (.k (.int 2))))) [.ret (.k (.bl false))] [], .if_ (.or (.cmp .ne (.comp (.var 3) (.nm 3) .seq [.var 2] (.not (.call (I.fn 26) [.var 3, .ix (.var 0) (.k (.int 1))]))) (.lst [])) (.cmp .ne (.bi .list [.var 2]) (.call (I.fn 24) [.var 2]))) [.ret (.k (.bl false))] []], .ret (.k (.bl true))]⟩
/-- 34: _law_good_key(make, thing, one) -/
def d__law_good_key (I : Ix) : FD := ⟨3, 2, [.if_ (.or (.not (.isi (.var 1) [.tuple])) (.cmp .ne (.bi .len [.var 1]) (.ix (.var 0) (.k (.int 0))))) [.ret (.k (.bl false))] [], .ret (.cmp .eq (.comp (.var 2) (.nm 2) .seq [.var 1] (.not (.call (I.fn 26) [.var 2, .ix (.var 0) (.k (.int 1))]))) (.lst []))]⟩
/-- 35: _law_refusals(row, make, made, lock, wrong, key, none, bad, value, ask, thing) -/
def d__law_refusals (I : Ix) : FD := ⟨11, 4, [.set (.tup [.nm 4, .nm 5]) (.tup [.call (I.fn 31) [.var 0], .bin .mul (.tup [.k (.int 0)]) (.ix (.var 1) (.k (.int 0)))]), .set (.nm 6) (.call (I.fn 22) [.var 0, .lst [.k .non, .tup [], .bin .mul (.tup [.ix (.var 1) (.k (.int 1))]) (.ix (.var 1) (.k (.int 0))), .bi .list [.var 5], .bin .add (.var 5) (.tup [.k (.int 0)]), .bin .mul (.tup [.k .non]) (.ix (.var 1) (.k (.int 0))), .bin .mul (.tup [.k (.bl true)]) (.ix (.var 1) (.k (.int 0)))]]), .set (.nm 7) (.call (I.fn 22) [.var 0, .lst [.k .non, .tup [], .bi .list [.var 3], .bin .add (.var 3) (.tup [.tup [.k (.int 0)]]), .bin .mul (.tup [.tup [.ix (.var 1) (.k (.int 1))]]) (.ix (.var 1) (.k (.int 0))), .bin .mul (.tup [.tup [.k .non]]) (.ix (.var 1) (.k (.int 0))), .bin .mul (.tup [.lst [.k (.int 0)]]) (.ix (.var 1) (.k (.int 0)))]]), .for_ (.nm 8) .seq [.lst [.k (.int 0), .k (.int 4), .k .non, .k (.bl true)]] [.if_ (.cmp .ne (.bi .repr [.refused (I.fn 36) (.mk (I.cls 0) [.var 8, .k (.int 2), .k (.int 1)])]) (.bi .repr [.tup [.k (.str "pins"), .var 8]])) [.ret (.k (.bl false))] []], .for_ (.nm 8) .seq [.lst [.k (.int 0), .k (.int 5), .k .non, .k (.bl true)]] [.if_ (.cmp .ne (.bi .repr [.refused (I.fn 36) (.mk (I.cls 0) [.k (.int 2), .var 8, .k (.int 1)])]) (.bi .repr [.tup [.k (.str "depths"), .var 8]])) [.ret (.k (.bl false))] [], .if_ (.cmp .ne (.bi .repr [.refused (I.fn 36) (.mk (I.cls 0) [.k (.int 2), .k (.int 3), .var 8])]) (.bi .repr [.tup [.k (.str "most"), .var 8]])) [.ret (.k (.bl false))] []], .if_ (.cmp .ne (.bi .repr [.refused (I.fn 36) (.call (I.fn 13) [.var 4])]) (.bi .repr [.tup [.k (.str "make"), .var 4]])) [.ret (.k (.bl false))] [], .for_ (.tup [.nm 9, .nm 10]) .seq [.lst [.tup [.fn (I.fn 8), .var 5], .tup [.fn (I.fn 10), .var 3], .tup [.fn (I.fn 18), .lst []], .tup [.fn (I.fn 17), .var 3]]] [.if_ (.cmp .ne (.bi .repr [.refused (I.fn 36) (.cvar 9 [.var 4, .var 10])]) (.bi .repr [.tup [.k (.str "make"), .var 4]])) [.ret (.k (.bl false))] []], .for_ (.tup [.nm 9, .nm 10]) .seq [.lst [.tup [.fn (I.fn 15), .var 3], .tup [.fn (I.fn 16), .lst []]]] [.if_ (.cmp .ne (.bi .repr [.refused (I.fn 36) (.cvar 9 [.var 2, .var 6, .var 10])]) (.bi .repr [.tup [.k (.str "key"), .var 6]])) [.ret (.k (.bl false))] []], .if_ (.cmp .ne (.bi .repr [.refused (I.fn 36) (.call (I.fn 18) [.var 2, .lst [.var 5, .var 6]])]) (.bi .repr [.tup [.k (.str "key"), .var 6]])) [.ret (.k (.bl false))] [], .for_ (.nm 9) .seq [.lst [.fn (I.fn 17), .fn (I.fn 19)]] [.if_ (.cmp .ne (.bi .repr [.refused (I.fn 36) (.cvar 9 [.var 2, .var 7])]) (.bi .repr [.tup [.k (.str "lock"), .var 7]])) [.ret (.k (.bl false))] []], .for_ (.tup [.nm 9, .nm 10]) .seq [.lst [.tup [.fn (I.fn 15), .var 5], .tup [.fn (I.fn 20), .var 3]]] [.if_ (.cmp .ne (.bi .repr [.refused (I.fn 36) (.cvar 9 [.var 2, .var 10, .var 7])]) (.bi .repr [.tup [.k (.str "lock"), .var 7]])) [.ret (.k (.bl false))] []], .if_ (.cmp .ne (.refused (I.fn 36) (.call (I.fn 16) [.var 2, .var 5, .lst [.var 3, .var 7]])) (.tup [.k (.str "locks"), .k (.int 1)])) [.ret (.k (.bl false))] [], .ret (.cmp .eq (.refused (I.fn 36) (.call (I.fn 16) [.var 2, .var 5, .k .non])) (.tup [.k (.str "locks"), .neg (.k (.int 1))]))]⟩
/-- 37: law(script, row, make, made, keys, lock, locks, k, due, key, at, some, least, other, thing) -/
def d_law (I : Ix) : FD := ⟨15, 1, [.newp 1 [.var 0, .k (.int 0), .k (.int 601), .k (.int 0)], .set (.nm 2) (.call (I.fn 27) [.var 1]), .set (.tup [.nm 3, .nm 4]) (.tup [.mk (I.cls 0) [.ix (.var 2) (.k (.int 0)), .ix (.var 2) (.k (.int 1)), .ix (.var 2) (.k (.int 2))], .call (I.fn 28) [.var 2]]), .if_ (.not (.call (I.fn 23) [.lst [.fld (.var 3) 0, .fld (.var 3) 1, .fld (.var 3) 2, .call (I.fn 13) [.var 3]], .lst [.ix (.var 2) (.k (.int 0)), .ix (.var 2) (.k (.int 1)), .ix (.var 2) (.k (.int 2)), .var 4]])) [.ret (.k (.bl false))] [], .set (.tup [.nm 5, .nm 6]) (.tup [.call (I.fn 32) [.var 1, .var 2], .comp (.call (I.fn 32) [.var 1, .var 2]) (.nm 7) .rng [.call (I.fn 21) [.var 1, .k (.int 5)]] (.k (.bl true))]), .set (.nm 8) (.comp (.var 9) (.nm 9) .seq [.var 4] (.call (I.fn 30) [.var 9, .var 5])), .if_ (.not (.call (I.fn 23) [.lst [.call (I.fn 17) [.var 3, .var 5], .call (I.fn 19) [.var 3, .var 5]], .lst [.bi .len [.var 8], .cmp .eq (.var 8) (.lst [])]])) [.ret (.k (.bl false))] [], .for_ (.nm 9) .seq [.var 4] [.if_ (.not (.call (I.fn 23) [.call (I.fn 15) [.var 3, .var 9, .var 5], .cmp .isin (.var 9) (.var 8)])) [.ret (.k (.bl false))] [], .if_ (.not (.call (I.fn 23) [.call (I.fn 16) [.var 3, .var 9, .var 6], .comp (.var 10) (.nm 10) .rng [.bi .len [.var 6]] (.call (I.fn 30) [.var 9, .ix (.var 6) (.var 10)])])) [.ret (.k (.bl false))] []], .set (.nm 11) (.comp (.call (I.fn 22) [.var 1, .var 4]) (.nm 7) .rng [.call (I.fn 21) [.var 1, .k (.int 4)]] (.k (.bl true))), .set (.nm 12) (.call (I.fn 18) [.var 3, .var 11]), .if_ (.or (.not (.call (I.fn 23) [.var 12, .call (I.fn 29) [.var 2, .var 11]])) (.not (.call (I.fn 23) [.call (I.fn 10) [.var 3, .var 12], .call (I.fn 33) [.var 2, .var 12]]))) [.ret (.k (.bl false))] [], .for_ (.nm 13) .seq [.var 6] [.if_ (.not (.call (I.fn 23) [.call (I.fn 20) [.var 3, .var 5, .var 13], .comp (.var 9) (.nm 9) .seq [.var 8] (.call (I.fn 30) [.var 9, .var 13])])) [.ret (.k (.bl false))] []], .for_ (.nm 14) .seq [.lst [.var 5, .bi .list [.var 5], .sl (.var 5) (.k (.int 1)) (.k .non), .bin .add (.var 5) (.var 5), .bin .mul (.tup [.tup [.k (.int 1), .k (.int 0)]]) (.ix (.var 2) (.k (.int 0))), .bin .mul (.tup [.tup [.k (.int 0), .k (.int 0)]]) (.ix (.var 2) (.k (.int 0))), .bin .mul (.tup [.tup [.k (.int 0), .k .non]]) (.ix (.var 2) (.k (.int 0))), .bin .mul (.tup [.tup [.neg (.k (.int 1))]]) (.ix (.var 2) (.k (.int 0)))]] [.if_ (.not (.call (I.fn 23) [.call (I.fn 10) [.var 3, .var 14], .call (I.fn 33) [.var 2, .var 14]])) [.ret (.k (.bl false))] []], .for_ (.nm 14) .seq [.lst [.call (I.fn 22) [.var 1, .var 4], .bi .list [.ix (.var 4) (.k (.int 0))], .bin .add (.ix (.var 4) (.k (.int 0))) (.tup [.k (.int 0)]), .bin .mul (.tup [.ix (.var 2) (.k (.int 1))]) (.ix (.var 2) (.k (.int 0))), .bin .mul (.tup [.k (.bl false)]) (.ix (.var 2) (.k (.int 0))), .k .non, .bin .mul (.tup [.neg (.k (.int 1))]) (.ix (.var 2) (.k (.int 0)))]] [.if_ (.not (.call (I.fn 23) [.call (I.fn 8) [.var 3, .var 14], .call (I.fn 34) [.var 2, .var 14]])) [.ret (.k (.bl false))] []], .ret (.call (I.fn 35) [.var 1, .var 2, .var 3, .var 5])]⟩
end Mini.P
end
section
set_option Elab.async false
set_option maxRecDepth 100000
set_option linter.all false
/-! # the program, as Mini text (printed by gen.py) -/
namespace Mini.P
open Mini PySem
def ixf : List Nat := [0, 1, 2, 3, 4, 5, 6, 7, 8, 9, 10, 11, 12, 13, 14, 15, 16, 17, 18, 19, 20, 21, 22, 23, 24, 25, 26, 27, 28, 29, 30, 31, 32, 33, 34, 35, 36, 37]
def ixc : List Nat := [0]
def ixe : List Nat := [0, 1, 2, 3, 4, 5, 6]
def ix : Ix := ⟨fun k => (ixf[k]?).getD 0, fun k => (ixc[k]?).getD 0, fun k => (ixe[k]?).getD 0⟩
def fdl : List (Option FD) := [some (d_is_integer ix), some (d_is_within ix), some (d_is_row ix), some (d_is_tuple_of ix), some (d_is_set ix), some (d_rows_of ix), some (d_Make_init ix), some (d_check_make ix), some (d_is_key ix), some (d_check_key ix), some (d_is_lock ix), some (d_check_lock ix), some (d_check_locks ix), some (d_all_keys ix), some (d_fits ix), some (d_opens ix), some (d_doors_of ix), some (d_count_keys ix), some (d_least_lock ix), some (d_is_shut ix), some (d_common_keys ix), some (d__law_taken ix), some (d__law_pick ix), some (d__law_alike ix), some (d__law_unlike ix), some (d__law_shuffled ix), some (d__law_number ix), some (d__law_make ix), some (d__law_keys ix), some (d__law_least ix), some (d__law_fits ix), some (d__law_bad_make ix), some (d__law_lock ix), some (d__law_good_lock ix), some (d__law_good_key ix), some (d__law_refusals ix), none, some (d_law ix)]
def fll : List (List Nat) := [[0, 1, 2]]
def inl : List Nat := [6]
def mtl : List ((Nat × Nat) × Nat) := []
def hnd : List (Nat × Clauses) := [(36, [(0, "pins"), (1, "depths"), (2, "most"), (3, "make"), (4, "key"), (5, "lock"), (6, "locks")])]
def chl : List Bool := [false]
def pr : Prog where
  defs f := (fdl[f]?).join
  flds c := (fll[c]?).getD []
  ini c := (inl[c]?).getD 0
  chg c := (chl[c]?).getD false
  meth c m := mtl.lookup (c, m)
  hand f := hnd.lookup f
theorem hd_is_integer : pr.defs (ix.fn 0) = some (d_is_integer ix) := rfl
theorem hd_is_within : pr.defs (ix.fn 1) = some (d_is_within ix) := rfl
theorem hd_is_row : pr.defs (ix.fn 2) = some (d_is_row ix) := rfl
theorem hd_is_tuple_of : pr.defs (ix.fn 3) = some (d_is_tuple_of ix) := rfl
theorem hd_is_set : pr.defs (ix.fn 4) = some (d_is_set ix) := rfl
theorem hd_rows_of : pr.defs (ix.fn 5) = some (d_rows_of ix) := rfl
theorem hd_Make_init : pr.defs (ix.fn 6) = some (d_Make_init ix) := rfl
theorem hd_check_make : pr.defs (ix.fn 7) = some (d_check_make ix) := rfl
theorem hd_is_key : pr.defs (ix.fn 8) = some (d_is_key ix) := rfl
theorem hd_check_key : pr.defs (ix.fn 9) = some (d_check_key ix) := rfl
theorem hd_is_lock : pr.defs (ix.fn 10) = some (d_is_lock ix) := rfl
theorem hd_check_lock : pr.defs (ix.fn 11) = some (d_check_lock ix) := rfl
theorem hd_check_locks : pr.defs (ix.fn 12) = some (d_check_locks ix) := rfl
theorem hd_all_keys : pr.defs (ix.fn 13) = some (d_all_keys ix) := rfl
theorem hd_fits : pr.defs (ix.fn 14) = some (d_fits ix) := rfl
theorem hd_opens : pr.defs (ix.fn 15) = some (d_opens ix) := rfl
theorem hd_doors_of : pr.defs (ix.fn 16) = some (d_doors_of ix) := rfl
theorem hd_count_keys : pr.defs (ix.fn 17) = some (d_count_keys ix) := rfl
theorem hd_least_lock : pr.defs (ix.fn 18) = some (d_least_lock ix) := rfl
theorem hd_is_shut : pr.defs (ix.fn 19) = some (d_is_shut ix) := rfl
theorem hd_common_keys : pr.defs (ix.fn 20) = some (d_common_keys ix) := rfl
theorem hd__law_taken : pr.defs (ix.fn 21) = some (d__law_taken ix) := rfl
theorem hd__law_pick : pr.defs (ix.fn 22) = some (d__law_pick ix) := rfl
theorem hd__law_alike : pr.defs (ix.fn 23) = some (d__law_alike ix) := rfl
theorem hd__law_unlike : pr.defs (ix.fn 24) = some (d__law_unlike ix) := rfl
theorem hd__law_shuffled : pr.defs (ix.fn 25) = some (d__law_shuffled ix) := rfl
theorem hd__law_number : pr.defs (ix.fn 26) = some (d__law_number ix) := rfl
theorem hd__law_make : pr.defs (ix.fn 27) = some (d__law_make ix) := rfl
theorem hd__law_keys : pr.defs (ix.fn 28) = some (d__law_keys ix) := rfl
theorem hd__law_least : pr.defs (ix.fn 29) = some (d__law_least ix) := rfl
theorem hd__law_fits : pr.defs (ix.fn 30) = some (d__law_fits ix) := rfl
theorem hd__law_bad_make : pr.defs (ix.fn 31) = some (d__law_bad_make ix) := rfl
theorem hd__law_lock : pr.defs (ix.fn 32) = some (d__law_lock ix) := rfl
theorem hd__law_good_lock : pr.defs (ix.fn 33) = some (d__law_good_lock ix) := rfl
theorem hd__law_good_key : pr.defs (ix.fn 34) = some (d__law_good_key ix) := rfl
theorem hd__law_refusals : pr.defs (ix.fn 35) = some (d__law_refusals ix) := rfl
theorem hd_law : pr.defs (ix.fn 37) = some (d_law ix) := rfl
end Mini.P
end
section
set_option Elab.async false
set_option maxRecDepth 100000
set_option maxHeartbeats 0
set_option linter.all false
/-! # the program and the row (printed by gen.py) -/
namespace Mini.P
open Mini PySem L2 PySem.Spec PyProof.Rows
def tp (i : Nat) : Stmt := PySem.Challenge.pw_lockwise_k00_makes.main.body.getD i (.Pass ⟨0, 0, 0, 0⟩)
def t0 : DT := ⟨0, ("is_integer", none), "is_integer", "is_integer", tp 1, ["thing"], ["thing"], false⟩
theorem b0 : BindsD t0.st t0.ps := fun _ _ _ _ _ _ _ _ _ _ us hl => match us, hl with | [_], _ => rfl
def t1 : DT := ⟨1, ("is_within", none), "is_within", "is_within", tp 2, ["thing", "least", "most"], ["thing", "least", "most"], false⟩
theorem b1 : BindsD t1.st t1.ps := fun _ _ _ _ _ _ _ _ _ _ us hl => match us, hl with | [_, _, _], _ => rfl
def t2 : DT := ⟨2, ("is_row", none), "is_row", "is_row", tp 3, ["thing"], ["thing"], false⟩
theorem b2 : BindsD t2.st t2.ps := fun _ _ _ _ _ _ _ _ _ _ us hl => match us, hl with | [_], _ => rfl
def t3 : DT := ⟨3, ("is_tuple_of", none), "is_tuple_of", "is_tuple_of", tp 4, ["thing", "many"], ["thing", "many"], false⟩
theorem b3 : BindsD t3.st t3.ps := fun _ _ _ _ _ _ _ _ _ _ us hl => match us, hl with | [_, _], _ => rfl
def t4 : DT := ⟨4, ("is_set", none), "is_set", "is_set", tp 5, ["thing", "most", "one", "other"], ["thing", "most"], false⟩
theorem b4 : BindsD t4.st t4.ps := fun _ _ _ _ _ _ _ _ _ _ us hl => match us, hl with | [_, _], _ => rfl
def t5 : DT := ⟨5, ("rows_of", none), "rows_of", "rows_of", tp 6, ["some", "many", "found", "_", "longer", "row", "one"], ["some", "many"], false⟩
theorem b5 : BindsD t5.st t5.ps := fun _ _ _ _ _ _ _ _ _ _ us hl => match us, hl with | [_, _], _ => rfl
def t6 : DT := ⟨6, ("Make", some "__init__"), "__init__", "Make.__init__", inClass (tp 20) 0, ["self", "pins", "depths", "most"], ["self", "pins", "depths", "most"], false⟩
theorem b6 : BindsD t6.st t6.ps := fun _ _ _ _ _ _ _ _ _ _ us hl => match us, hl with | [_, _, _, _], _ => rfl
def t7 : DT := ⟨7, ("check_make", none), "check_make", "check_make", tp 21, ["make"], ["make"], false⟩
theorem b7 : BindsD t7.st t7.ps := fun _ _ _ _ _ _ _ _ _ _ us hl => match us, hl with | [_], _ => rfl
def t8 : DT := ⟨8, ("is_key", none), "is_key", "is_key", tp 22, ["make", "thing", "one"], ["make", "thing"], false⟩
theorem b8 : BindsD t8.st t8.ps := fun _ _ _ _ _ _ _ _ _ _ us hl => match us, hl with | [_, _], _ => rfl
def t9 : DT := ⟨9, ("check_key", none), "check_key", "check_key", tp 23, ["make", "key"], ["make", "key"], false⟩
theorem b9 : BindsD t9.st t9.ps := fun _ _ _ _ _ _ _ _ _ _ us hl => match us, hl with | [_, _], _ => rfl
def t10 : DT := ⟨10, ("is_lock", none), "is_lock", "is_lock", tp 24, ["make", "thing", "one"], ["make", "thing"], false⟩
theorem b10 : BindsD t10.st t10.ps := fun _ _ _ _ _ _ _ _ _ _ us hl => match us, hl with | [_, _], _ => rfl
def t11 : DT := ⟨11, ("check_lock", none), "check_lock", "check_lock", tp 25, ["make", "lock"], ["make", "lock"], false⟩
theorem b11 : BindsD t11.st t11.ps := fun _ _ _ _ _ _ _ _ _ _ us hl => match us, hl with | [_, _], _ => rfl
def t12 : DT := ⟨12, ("check_locks", none), "check_locks", "check_locks", tp 26, ["make", "locks", "index", "lock"], ["make", "locks"], false⟩
theorem b12 : BindsD t12.st t12.ps := fun _ _ _ _ _ _ _ _ _ _ us hl => match us, hl with | [_, _], _ => rfl
def t13 : DT := ⟨13, ("all_keys", none), "all_keys", "all_keys", tp 27, ["make"], ["make"], false⟩
theorem b13 : BindsD t13.st t13.ps := fun _ _ _ _ _ _ _ _ _ _ us hl => match us, hl with | [_], _ => rfl
def t14 : DT := ⟨14, ("fits", none), "fits", "fits", tp 28, ["key", "lock", "depth", "pin"], ["key", "lock"], false⟩
theorem b14 : BindsD t14.st t14.ps := fun _ _ _ _ _ _ _ _ _ _ us hl => match us, hl with | [_, _], _ => rfl
def t15 : DT := ⟨15, ("opens", none), "opens", "opens", tp 29, ["make", "key", "lock"], ["make", "key", "lock"], false⟩
theorem b15 : BindsD t15.st t15.ps := fun _ _ _ _ _ _ _ _ _ _ us hl => match us, hl with | [_, _, _], _ => rfl
def t16 : DT := ⟨16, ("doors_of", none), "doors_of", "doors_of", tp 30, ["make", "key", "locks", "number", "lock"], ["make", "key", "locks"], false⟩
theorem b16 : BindsD t16.st t16.ps := fun _ _ _ _ _ _ _ _ _ _ us hl => match us, hl with | [_, _, _], _ => rfl
def t17 : DT := ⟨17, ("count_keys", none), "count_keys", "count_keys", tp 31, ["make", "lock", "found", "pin"], ["make", "lock"], false⟩
theorem b17 : BindsD t17.st t17.ps := fun _ _ _ _ _ _ _ _ _ _ us hl => match us, hl with | [_, _], _ => rfl
def t18 : DT := ⟨18, ("least_lock", none), "least_lock", "least_lock", tp 32, ["make", "keys", "key", "pin"], ["make", "keys"], false⟩
theorem b18 : BindsD t18.st t18.ps := fun _ _ _ _ _ _ _ _ _ _ us hl => match us, hl with | [_, _], _ => rfl
def t19 : DT := ⟨19, ("is_shut", none), "is_shut", "is_shut", tp 33, ["make", "lock"], ["make", "lock"], false⟩
theorem b19 : BindsD t19.st t19.ps := fun _ _ _ _ _ _ _ _ _ _ us hl => match us, hl with | [_, _], _ => rfl
def t20 : DT := ⟨20, ("common_keys", none), "common_keys", "common_keys", tp 34, ["make", "lock", "other", "key"], ["make", "lock", "other"], false⟩
theorem b20 : BindsD t20.st t20.ps := fun _ _ _ _ _ _ _ _ _ _ us hl => match us, hl with | [_, _, _], _ => rfl
def t21 : DT := ⟨21, ("_law_taken", none), "_law_taken", "_law_taken", tp 36, ["row", "many", "found", "cell"], ["row", "many"], false⟩
theorem b21 : BindsD t21.st t21.ps := fun _ _ _ _ _ _ _ _ _ _ us hl => match us, hl with | [_, _], _ => rfl
def t22 : DT := ⟨22, ("_law_pick", none), "_law_pick", "_law_pick", tp 37, ["row", "some"], ["row", "some"], false⟩
theorem b22 : BindsD t22.st t22.ps := fun _ _ _ _ _ _ _ _ _ _ us hl => match us, hl with | [_, _], _ => rfl
def t23 : DT := ⟨23, ("_law_alike", none), "_law_alike", "_law_alike", tp 38, ["found", "due", "k", "key"], ["found", "due"], false⟩
theorem b23 : BindsD t23.st t23.ps := fun _ _ _ _ _ _ _ _ _ _ us hl => match us, hl with | [_, _], _ => rfl
def t24 : DT := ⟨24, ("_law_unlike", none), "_law_unlike", "_law_unlike", tp 39, ["things", "found", "one"], ["things"], false⟩
theorem b24 : BindsD t24.st t24.ps := fun _ _ _ _ _ _ _ _ _ _ us hl => match us, hl with | [_], _ => rfl
def t25 : DT := ⟨25, ("_law_shuffled", none), "_law_shuffled", "_law_shuffled", tp 40, ["row", "things", "found", "thing", "at"], ["row", "things"], false⟩
theorem b25 : BindsD t25.st t25.ps := fun _ _ _ _ _ _ _ _ _ _ us hl => match us, hl with | [_, _], _ => rfl
def t26 : DT := ⟨26, ("_law_number", none), "_law_number", "_law_number", tp 41, ["thing", "many"], ["thing", "many"], false⟩
theorem b26 : BindsD t26.st t26.ps := fun _ _ _ _ _ _ _ _ _ _ us hl => match us, hl with | [_, _], _ => rfl
def t27 : DT := ⟨27, ("_law_make", none), "_law_make", "_law_make", tp 42, ["row", "pins", "depths"], ["row"], false⟩
theorem b27 : BindsD t27.st t27.ps := fun _ _ _ _ _ _ _ _ _ _ us hl => match us, hl with | [_], _ => rfl
def t28 : DT := ⟨28, ("_law_keys", none), "_law_keys", "_law_keys", tp 43, ["make", "found", "pin", "longer", "one", "depth"], ["make"], false⟩
theorem b28 : BindsD t28.st t28.ps := fun _ _ _ _ _ _ _ _ _ _ us hl => match us, hl with | [_], _ => rfl
def t29 : DT := ⟨29, ("_law_least", none), "_law_least", "_law_least", tp 44, ["make", "keys", "key", "pin"], ["make", "keys"], false⟩
theorem b29 : BindsD t29.st t29.ps := fun _ _ _ _ _ _ _ _ _ _ us hl => match us, hl with | [_, _], _ => rfl
def t30 : DT := ⟨30, ("_law_fits", none), "_law_fits", "_law_fits", tp 45, ["key", "lock", "pin"], ["key", "lock"], false⟩
theorem b30 : BindsD t30.st t30.ps := fun _ _ _ _ _ _ _ _ _ _ us hl => match us, hl with | [_, _], _ => rfl
def t31 : DT := ⟨31, ("_law_bad_make", none), "_law_bad_make", "_law_bad_make", tp 46, ["row"], ["row"], false⟩
theorem b31 : BindsD t31.st t31.ps := fun _ _ _ _ _ _ _ _ _ _ us hl => match us, hl with | [_], _ => rfl
def t32 : DT := ⟨32, ("_law_lock", none), "_law_lock", "_law_lock", tp 47, ["row", "make", "found", "pin", "some"], ["row", "make"], false⟩
theorem b32 : BindsD t32.st t32.ps := fun _ _ _ _ _ _ _ _ _ _ us hl => match us, hl with | [_, _], _ => rfl
def t33 : DT := ⟨33, ("_law_good_lock", none), "_law_good_lock", "_law_good_lock", tp 48, ["make", "thing", "pin", "one"], ["make", "thing"], false⟩
theorem b33 : BindsD t33.st t33.ps := fun _ _ _ _ _ _ _ _ _ _ us hl => match us, hl with | [_, _], _ => rfl
def t34 : DT := ⟨34, ("_law_good_key", none), "_law_good_key", "_law_good_key", tp 49, ["make", "thing", "one"], ["make", "thing"], false⟩
theorem b34 : BindsD t34.st t34.ps := fun _ _ _ _ _ _ _ _ _ _ us hl => match us, hl with | [_, _], _ => rfl
def t35 : DT := ⟨35, ("_law_refusals", none), "_law_refusals", "_law_refusals", tp 50, ["row", "make", "made", "lock", "wrong", "key", "none", "bad", "value", "ask", "thing"], ["row", "make", "made", "lock"], true⟩
theorem b35 : BindsD t35.st t35.ps := fun _ _ _ _ _ _ _ _ _ _ us hl => match us, hl with | [_, _, _, _], _ => rfl
def t36 : DT := ⟨36, ("_law_refused", none), "_law_refused", "_law_refused", tp 51, ["ask", "e"], ["ask"], false⟩
theorem b36 : BindsD t36.st t36.ps := fun _ _ _ _ _ _ _ _ _ _ us hl => match us, hl with | [_], _ => rfl
def t37 : DT := ⟨37, ("law", none), "law", "law", tp 52, ["script", "row", "make", "made", "keys", "lock", "locks", "k", "due", "key", "at", "some", "least", "other", "thing"], ["script"], false⟩
theorem b37 : BindsD t37.st t37.ps := fun _ _ _ _ _ _ _ _ _ _ us hl => match us, hl with | [_], _ => rfl
def tx : TX where
  fdl := fdl
  fll := fll
  inl := inl
  tab := [t0, t1, t2, t3, t4, t5, t6, t7, t8, t9, t10, t11, t12, t13, t14, t15, t16, t17, t18, t19, t20, t21, t22, t23, t24, t25, t26, t27, t28, t29, t30, t31, t32, t33, t34, t35, t36, t37]
  gil := [("MOST_PINS", 3), ("MOST_DEPTHS", 4), ("MOST_LOCKS", 8)]
  cln := ["Make"]
  exn := ["BadPins", "BadDepths", "BadMost", "BadMake", "BadKey", "BadLock", "BadLocks"]
  fln := ["pins", "depths", "most", "people", "doors", "may", "may_not", "make", "wishes", "cut", "locks", "lost"]
  mtn := ["openers", "follow", "lose", "add_door", "add_person", "wishes_now", "run", "wished", "told"]
  mtl := mtl
  hnd := hnd
  chl := chl
  base := "LockError"
abbrev stB : Stmt := inClass (tp 8) 0
theorem binds : ∀ d ∈ tx.tab, BindsD d.st d.ps := List.forall_mem_cons.mpr ⟨b0, List.forall_mem_cons.mpr ⟨b1, List.forall_mem_cons.mpr ⟨b2, List.forall_mem_cons.mpr ⟨b3, List.forall_mem_cons.mpr ⟨b4, List.forall_mem_cons.mpr ⟨b5, List.forall_mem_cons.mpr ⟨b6, List.forall_mem_cons.mpr ⟨b7, List.forall_mem_cons.mpr ⟨b8, List.forall_mem_cons.mpr ⟨b9, List.forall_mem_cons.mpr ⟨b10, List.forall_mem_cons.mpr ⟨b11, List.forall_mem_cons.mpr ⟨b12, List.forall_mem_cons.mpr ⟨b13, List.forall_mem_cons.mpr ⟨b14, List.forall_mem_cons.mpr ⟨b15, List.forall_mem_cons.mpr ⟨b16, List.forall_mem_cons.mpr ⟨b17, List.forall_mem_cons.mpr ⟨b18, List.forall_mem_cons.mpr ⟨b19, List.forall_mem_cons.mpr ⟨b20, List.forall_mem_cons.mpr ⟨b21, List.forall_mem_cons.mpr ⟨b22, List.forall_mem_cons.mpr ⟨b23, List.forall_mem_cons.mpr ⟨b24, List.forall_mem_cons.mpr ⟨b25, List.forall_mem_cons.mpr ⟨b26, List.forall_mem_cons.mpr ⟨b27, List.forall_mem_cons.mpr ⟨b28, List.forall_mem_cons.mpr ⟨b29, List.forall_mem_cons.mpr ⟨b30, List.forall_mem_cons.mpr ⟨b31, List.forall_mem_cons.mpr ⟨b32, List.forall_mem_cons.mpr ⟨b33, List.forall_mem_cons.mpr ⟨b34, List.forall_mem_cons.mpr ⟨b35, List.forall_mem_cons.mpr ⟨b36, List.forall_mem_cons.mpr ⟨b37, (fun _ h => nomatch h)⟩⟩⟩⟩⟩⟩⟩⟩⟩⟩⟩⟩⟩⟩⟩⟩⟩⟩⟩⟩⟩⟩⟩⟩⟩⟩⟩⟩⟩⟩⟩⟩⟩⟩⟩⟩⟩⟩
def lawF : Nat := 37
def lawI : Nat := 52
def loose : List Str := (["__name__", "is_integer", "is_within", "is_row", "is_tuple_of", "is_set", "rows_of", "LockError", "BadPins", "BadDepths", "BadMost", "BadMake", "BadKey", "BadLock", "BadLocks", "MOST_PINS", "MOST_DEPTHS", "MOST_LOCKS", "Make", "check_make", "is_key", "check_key", "is_lock", "check_lock", "check_locks", "all_keys", "fits", "opens", "doors_of", "count_keys"] : List Str) ++ (["least_lock", "is_shut", "common_keys", "_law_taken", "_law_pick", "_law_alike", "_law_unlike", "_law_shuffled", "_law_number", "_law_make", "_law_keys", "_law_least", "_law_fits", "_law_bad_make", "_law_lock", "_law_good_lock", "_law_good_key", "_law_refusals", "_law_refused"] : List Str)
theorem says : tx.Says stB where
  ok := by decide +kernel
  defs := fun K => by kernel_rfl
  hand := fun K => by kernel_rfl
  binds := binds
  ini := ⟨_, _, _, _, rfl⟩
  iniS := by decide +kernel
  iniB := fun name qual body scope T kV doc pm an cdv ct us its hu hi => match us, its, hu, hi with | [a, b], [d], _, _ => ⟨_, rfl, rfl⟩
abbrev R : PySem.W.OpenRow := PySem.W.OpenLaw.row PySem.Challenge.rw_lockwise_k00_makes
def fn : List He.DefD := tx.tab.map DT.d ++ [tx.dB stB]
abbrev hk : PySem.W.Hook := He.hookX 5 tx.fa fn [] tx.tf tx.ex
def ob (s : PySem.W.SharedT) : He.AlX := He.obsX 5 tx.fa fn [] tx.tf tx.ex (HandSHeadRun.getT s)
theorem ob_eq (s : PySem.W.SharedT) : ob s = hk.obs s.abs := He.obsX_eq (HandSHeadRun.getT_eq s)
theorem run (w : World) : HandSHeadRun.RunEq R (PySem.W.view R.prog [lawI]) hk ob 4000 loose w := by
  intro os
  kernel_rfl
end Mini.P
end
section
set_option Elab.async false
set_option linter.all false
set_option maxRecDepth 100000
set_option maxHeartbeats 2000000
/-! # the evaluator, told for plain mathematics -/
namespace Mini
open PySem
section
variable {P : Prog} {w n : Nat} {C : Calls} {st : Store} {ρ : Env}
theorem call_at {f : Nat} {fd : FD} {ds : List D} (h : P.defs f = some fd) (hl : ds.length = fd.np) : (callsN P w (n + 1)).call f ds st = (exs P (callsN P w n) w fd.body (fd.start (ds.map .val)) st).answer := by
  simp only [callsN, h, hl, if_true]
theorem lev {k : Nat} (h : k ≤ n) : ∃ m, n = m + k := ⟨n - k, by omega⟩
section
variable {α β : Type} {a : α} {f : α → Store → R β} {fo : α → Store → Out} {c : Nat} {d : D} {k : Env → Store → Out}
theorem rb_ok : (R.ok a st).bind f = f a st := rfl
theorem rb_exc : (R.exc c d st : R α).bind f = .exc c d st := rfl
theorem ro_ok : (R.ok a st).out fo = fo a st := rfl
theorem ro_exc : (R.exc c d st : R α).out fo = .exc c d st := rfl
theorem ob_nx : (Out.nx ρ st).bind k = k ρ st := rfl
theorem ob_rt : (Out.rt d st).bind k = .rt d st := rfl
theorem ob_exc : (Out.exc c d st).bind k = .exc c d st := rfl
theorem oo_some {g : α → Out} : Out.ofOpt (some a) g = g a := rfl
theorem rs_some : R.ofOpt (some a) st = .ok a st := rfl
theorem an_nx : (Out.nx ρ st).answer = .ok .non st := rfl
theorem an_rt : (Out.rt d st).answer = .ok d st := rfl
theorem an_exc : (Out.exc c d st).answer = .exc c d st := rfl
theorem bi_some {g : α → Option β} : (some a >>= g) = g a := rfl
theorem bi_some' {g : α → Option β} : (some a).bind g = g a := rfl
end
/-! ### operations -/
section
variable {i j : Int} {x y : List D}
theorem o_add : opB .add (.int i) (.int j) = some (.int (i + j)) := rfl
theorem o_sub : opB .sub (.int i) (.int j) = some (.int (i - j)) := rfl
theorem o_addT (h : x.length + y.length ≤ 1000000) : opB .add (.tup x) (.tup y) = some (.tup (x ++ y)) := by
  show (catL x y).map D.tup = _
  unfold catL
  rw [if_pos (show x.length + y.length ≤ maxLen from h)]
  rfl
theorem o_addL (h : x.length + y.length ≤ 1000000) : opB .add (.lst x) (.lst y) = some (.lst (x ++ y)) := by
  show (catL x y).map D.lst = _
  unfold catL
  rw [if_pos (show x.length + y.length ≤ maxLen from h)]
  rfl
theorem o_mulT (h : x ≠ []) (h1 : 1 ≤ i) (h2 : i ≤ 1000) (h3 : x.length ≤ 1000) : opB .mul (.tup x) (.int i) = some (.tup (List.replicate i.toNat x).flatten) := by
  show (if x ≠ [] ∧ 1 ≤ i ∧ i ≤ 1000 ∧ x.length ≤ 1000 then _ else _) = _
  rw [if_pos ⟨h, h1, h2, h3⟩]
theorem eqD_int : eqD (.int i) (.int j) = some (i == j) := by simp [eqD, D.plain, D.depth, D.eqv]
theorem eqD_eq {a b : D} (ha : a.plain = true) (hb : b.plain = true) (h : min a.depth b.depth ≤ 60) : eqD a b = some (a.eqv b) := by simp [eqD, ha, hb, h]
theorem c_eqI : opC .eq (.int i) (.int j) = some (i == j) := eqD_int
theorem c_neI : opC .ne (.int i) (.int j) = some (!(i == j)) := by
  show (eqD (.int i) (.int j)).map (!·) = _
  rw [eqD_int]
  rfl
theorem c_lt : opC .lt (.int i) (.int j) = some (decide (i < j)) := rfl
theorem c_le : opC .le (.int i) (.int j) = some (decide (i ≤ j)) := rfl
theorem c_gt : opC .gt (.int i) (.int j) = some (decide (j < i)) := rfl
theorem c_ge : opC .ge (.int i) (.int j) = some (decide (j ≤ i)) := rfl
theorem c_is {a b : D} : opC .is a b = isD a b := rfl
theorem c_isnot {a b : D} : opC .isnot a b = (isD a b).map (!·) := rfl
theorem b_lenL : opBi .len [.lst x] = some (.int x.length) := rfl
theorem b_lenT : opBi .len [.tup x] = some (.int x.length) := rfl
theorem b_int : opBi .int [.int i] = some (.int i) := rfl
theorem b_tupL : opBi .tuple [.lst x] = some (.tup x) := rfl
theorem b_tupT : opBi .tuple [.tup x] = some (.tup x) := rfl
theorem b_lstL : opBi .list [.lst x] = some (.lst x) := rfl
theorem b_lstT : opBi .list [.tup x] = some (.lst x) := rfl
theorem b_all {bs : List Bool} (h : blsOf x = some bs) : opBi .all [.lst x] = some (.bl (bs.all id)) := by show (blsOf x).map _ = _; rw [h]; rfl
theorem b_any {bs : List Bool} (h : blsOf x = some bs) : opBi .any [.lst x] = some (.bl (bs.any id)) := by show (blsOf x).map _ = _; rw [h]; rfl
theorem b_lrange (h : i ≤ 1000000) (h' : -1000000 ≤ i) : opBi .lrange [.int i] = some (.lst ((List.range i.toNat).map fun (k : Nat) => .int (k : Int))) := by
  show (if _ then _ else _) = _
  rw [if_pos ⟨h, h'⟩]
theorem b_repr {d : D} : opBi .repr [.tup x] = (reprD (.tup x)).map .str := rfl
theorem i_sL : itD .seq [.lst x] = some x := rfl
theorem i_sT : itD .seq [.tup x] = some x := rfl
theorem i_rn (h : i ≤ 1000000) (h' : -1000000 ≤ i) : itD .rng [.int i] = some ((List.range i.toNat).map fun (k : Nat) => .int (k : Int)) := by
  show (if _ then _ else _) = _
  rw [if_pos ⟨h, h'⟩]
theorem i_eL : itD .enum [.lst x] = some (x.zipIdx.map fun p => .tup [.int p.2, p.1]) := rfl
theorem i_eT : itD .enum [.tup x] = some (x.zipIdx.map fun p => .tup [.int p.2, p.1]) := rfl
theorem i_zp {a b : D} (ha : seqOf a = some x) (hb : seqOf b = some y) : itD .zip [a, b] = some ((x.zip y).map fun p => .tup [p.1, p.2]) := by
  show (seqOf a).bind _ = _
  rw [ha]
  show (seqOf b).bind _ = _
  rw [hb]
  rfl
theorem sl_from {lo : D} {k : Nat} (h : cutI x.length lo 0 = some k) : slL x lo .non = some (x.drop k) := by
  show (cutI x.length lo 0).bind _ = _
  rw [h]
  show some ((x.take x.length).drop k) = _
  rw [List.take_length]
theorem sl_to {hi : D} {k : Nat} (h : cutI x.length hi x.length = some k) : slL x .non hi = some (x.take k) := by
  show (cutI x.length hi x.length).bind _ = _
  rw [h]
  rfl
theorem slT {lo hi : D} : slD (.tup x) lo hi = (slL x lo hi).map .tup := rfl
theorem slLs {lo hi : D} : slD (.lst x) lo hi = (slL x lo hi).map .lst := rfl
theorem sl1 : slL x (.int 1) .non = some (x.drop 1) := by
  have : cutI x.length (.int 1) 0 = some (min 1 x.length) := by simp [cutI]
  rw [sl_from this]
  congr 1
  cases x <;> simp
theorem putAt_ok {i : Int} {d : D} (h : 0 ≤ i) (h' : i < x.length) : putAt x i d = some (x.set i.toNat d) := by
  unfold putAt
  rw [if_pos ⟨h, h'⟩]
end
/-- a comprehension without effects -/
theorem compL_pure {turn : D → Store → R (Option D)} {f : D → Option D} : ∀ {items : List D}, (∀ d ∈ items, turn d st = .ok (f d) st) → compL turn items st = .ok (items.filterMap f) st
  | [], _ => rfl
  | d :: r, h => by
    simp only [compL, h d List.mem_cons_self, compL_pure (items := r) fun d hd => h d (List.mem_cons_of_mem _ hd), List.filterMap_cons]
    cases f d <;> rfl
theorem compL_map {turn : D → Store → R (Option D)} {f : D → D} {items : List D} (h : ∀ d ∈ items, turn d st = .ok (some (f d)) st) : compL turn items st = .ok (items.map f) st := by
  rw [compL_pure h]
  simp
theorem compL_filter {turn : D → Store → R (Option D)} {p : D → Bool} {items : List D} (h : ∀ d ∈ items, turn d st = .ok (if p d then some d else none) st) : compL turn items st = .ok (items.filter p) st := by
  rw [compL_pure h]
  induction items with
  | nil => rfl
  | cons d r ih =>
    have := ih fun d hd => h d (List.mem_cons_of_mem _ hd)
    simp only [R.ok.injEq, and_true] at this
    simp only [List.filterMap_cons, List.filter_cons]
    cases p d <;> simp [this]
theorem compL_of {α : Type} {enc : α → D} {turn : D → Store → R (Option D)} {f : α → Option D} : ∀ {xs : List α}, (∀ x ∈ xs, turn (enc x) st = .ok (f x) st) → compL turn (xs.map enc) st = .ok (xs.filterMap f) st
  | [], _ => rfl
  | d :: r, h => by
    simp only [List.map_cons, compL, h d List.mem_cons_self, compL_of (xs := r) fun d hd => h d (List.mem_cons_of_mem _ hd), List.filterMap_cons]
    cases f d <;> rfl
theorem compL_ofM {α : Type} {enc : α → D} {turn : D → Store → R (Option D)} {f : α → D} {xs : List α} (h : ∀ x ∈ xs, turn (enc x) st = .ok (some (f x)) st) : compL turn (xs.map enc) st = .ok (xs.map f) st := by
  rw [compL_of (f := fun x => some (f x)) h]
  simp
theorem compL_ofF {α : Type} {enc : α → D} {turn : D → Store → R (Option D)} {p : α → Bool} {f : α → D} {xs : List α} (h : ∀ x ∈ xs, turn (enc x) st = .ok (if p x then some (f x) else none) st) : compL turn (xs.map enc) st = .ok ((xs.filter p).map f) st := by
  rw [compL_of (f := fun x => if p x then some (f x) else none) h]
  congr 1
  induction xs with
  | nil => rfl
  | cons x r ih =>
    have := ih fun x hx => h x (List.mem_cons_of_mem _ hx)
    simp only [List.filterMap_cons, List.filter_cons]
    cases p x <;> simp [this]
/-- a for over told items -/
theorem forL_of {α : Type} {enc : α → D} {turn : D → Env → Store → Out} (I : List α → Env → Store → Prop) : ∀ {xs : List α} {ρ : Env} {st : Store}, I xs ρ st → (∀ x r ρ st, I (x :: r) ρ st → ∃ ρ' st', turn (enc x) ρ st = .nx ρ' st' ∧ I r ρ' st') → ∃ ρ' st', forL turn (xs.map enc) ρ st = .nx ρ' st' ∧ I [] ρ' st'
  | [], ρ, st, h, _ => ⟨ρ, st, rfl, h⟩
  | d :: r, ρ, st, h, k => by
    obtain ⟨ρ1, st1, e1, h1⟩ := k d r ρ st h
    obtain ⟨ρ2, st2, e2, h2⟩ := forL_of I h1 k
    exact ⟨ρ2, st2, by simp only [List.map_cons, forL, e1, Out.bind, e2], h2⟩
/-- a for whose every turn goes on, the names' slots in G -/
theorem forL_ok {α : Type} {enc : α → D} {turn : D → Env → Store → Out} (G : Env → Prop) {xs : List α} {ρ : Env} (h : G ρ) (k : ∀ x ∈ xs, ∀ ρ, G ρ → ∃ ρ', turn (enc x) ρ st = .nx ρ' st ∧ G ρ') : ∃ ρ', forL turn (xs.map enc) ρ st = .nx ρ' st ∧ G ρ' := by
  obtain ⟨ρ', st', e, rfl, h', _⟩ := forL_of (enc := enc) (turn := turn) (xs := xs) (fun r ρ s => s = st ∧ G ρ ∧ ∀ x ∈ r, x ∈ xs) (ρ := ρ) (st := st) ⟨rfl, h, fun x h => h⟩ (by
    rintro x r ρ s ⟨rfl, hG, hr⟩
    obtain ⟨ρ', e, hG'⟩ := k x (hr x List.mem_cons_self) ρ hG
    exact ⟨ρ', s, e, rfl, hG', fun y hy => hr y (List.mem_cons_of_mem _ hy)⟩)
  exact ⟨ρ', e, h'⟩
/-- a for whose every turn goes on, the names' slots and the store in G -/
theorem forL_ok2 {α : Type} {enc : α → D} {turn : D → Env → Store → Out} (G : Env → Store → Prop) {xs : List α} {ρ : Env} {st : Store} (h : G ρ st) (k : ∀ x ∈ xs, ∀ ρ st, G ρ st → ∃ ρ' st', turn (enc x) ρ st = .nx ρ' st' ∧ G ρ' st') : ∃ ρ' st', forL turn (xs.map enc) ρ st = .nx ρ' st' ∧ G ρ' st' := by
  obtain ⟨ρ', st', e, h', _⟩ := forL_of (enc := enc) (turn := turn) (xs := xs) (fun r ρ s => G ρ s ∧ ∀ x ∈ r, x ∈ xs) (ρ := ρ) (st := st) ⟨h, fun x h => h⟩ (by
    rintro x r ρ s ⟨hG, hr⟩
    obtain ⟨ρ', s', e, hG'⟩ := k x (hr x List.mem_cons_self) ρ s hG
    exact ⟨ρ', s', e, hG', fun y hy => hr y (List.mem_cons_of_mem _ hy)⟩)
  exact ⟨ρ', st', e, h'⟩
/-- a for whose every turn goes on, by the names' slots of a value that each turn changes -/
theorem forL_fold {α β : Type} {enc : α → D} {turn : D → Env → Store → Out} (G : β → Env → Prop) (g : β → α → β) : ∀ {xs : List α} {b : β} {ρ : Env}, G b ρ → (∀ x ∈ xs, ∀ b ρ, G b ρ → ∃ ρ', turn (enc x) ρ st = .nx ρ' st ∧ G (g b x) ρ') → ∃ ρ', forL turn (xs.map enc) ρ st = .nx ρ' st ∧ G (xs.foldl g b) ρ'
  | [], b, ρ, h, _ => ⟨ρ, rfl, h⟩
  | x :: r, b, ρ, h, k => by
    obtain ⟨ρ1, e1, h1⟩ := k x List.mem_cons_self b ρ h
    obtain ⟨ρ2, e2, h2⟩ := forL_fold (xs := r) G g h1 fun x hx => k x (List.mem_cons_of_mem _ hx)
    exact ⟨ρ2, by simp only [List.map_cons, forL, e1, Out.bind, e2], h2⟩
/-- a for whose turns keep an invariant -/
theorem forL_inv {turn : D → Env → Store → Out} (I : List D → Env → Store → Prop) : ∀ {items : List D} {ρ : Env} {st : Store}, I items ρ st → (∀ d r ρ st, I (d :: r) ρ st → ∃ ρ' st', turn d ρ st = .nx ρ' st' ∧ I r ρ' st') → ∃ ρ' st', forL turn items ρ st = .nx ρ' st' ∧ I [] ρ' st'
  | [], ρ, st, h, _ => ⟨ρ, st, rfl, h⟩
  | d :: r, ρ, st, h, k => by
    obtain ⟨ρ1, st1, e1, h1⟩ := k d r ρ st h
    obtain ⟨ρ2, st2, e2, h2⟩ := forL_inv I h1 k
    exact ⟨ρ2, st2, by simp only [forL, e1, Out.bind, e2], h2⟩
/-- a for without effects -/
theorem forL_eq {turn : D → Env → Store → Out} (g : Env → D → Env) : ∀ {items : List D} {ρ : Env}, (∀ d ρ, turn d ρ st = .nx (g ρ d) st) → forL turn items ρ st = .nx (items.foldl g ρ) st
  | [], ρ, _ => rfl
  | d :: r, ρ, k => by
    simp only [forL, k, Out.bind, List.foldl_cons]
    exact forL_eq g k
end
/-- can be asked of its type -/
def D.gd : D → Bool
  | .scr _ => false
  | .fn _ => false
  | .ptr _ => false
  | .ins _ fs => !fs.isEmpty
  | _ => true
theorem shw_gd {st : Store} {d : D} (h : d.gd = true) : shw st d = d := by
  cases d with
  | ins c fs => cases fs with
    | nil => cases h
    | cons => rfl
  | _ => first | rfl | cases h
section
variable {P : Prog} {I : Ix} {w n : Nat} {st : Store}
open Mini.P
theorem s_is_integer (h0 : P.defs (I.fn 0) = some (d_is_integer I)) (h : 1 ≤ n) {d : D} (hd : d.gd = true) : (callsN P w n).call (I.fn 0) [d] st = .ok (.bl d.isI) st := by
  obtain ⟨m, rfl⟩ := lev h
  rw [call_at h0 rfl]
  simp only [d_is_integer, FD.start, exs, ex, ev, R.bind, R.out, Out.bind, Out.answer, List.map, List.length_cons, List.length_nil, List.cons_append, List.nil_append, List.replicate, List.getElem?_cons_zero, shw_gd hd]
  cases d <;> first | rfl | cases hd
end
end Mini
end
section
set_option Elab.async false
set_option linter.all false
set_option maxRecDepth 100000
set_option maxHeartbeats 2000000
/-! # what the package's functions tell: makes -/
namespace Mini
open PySem
abbrev tI (l : List Int) : D := .tup (l.map .int)
abbrev tTt (l : List (List Int)) : D := .tup (l.map tI)
mutual
/-- asked of its type at every place -/
def D.deep : D → Bool
  | .lst l => D.deeps l
  | .tup l => D.deeps l
  | .ins _ fs => !fs.isEmpty
  | .scr _ => false
  | .fn _ => false
  | .ptr _ => false
  | _ => true
def D.deeps : List D → Bool
  | [] => true
  | d :: ds => D.deep d && D.deeps ds
end
theorem deep_gd {d : D} (h : d.deep = true) : d.gd = true := by
  cases d <;> first | rfl | (simp [D.deep] at h; done) | (simpa [D.deep, D.gd] using h)
theorem deeps_mem : ∀ {l : List D}, D.deeps l = true → ∀ d ∈ l, d.deep = true
  | d :: ds, h, e, he => by
    have h' : d.deep = true ∧ D.deeps ds = true := by simpa [D.deeps] using h
    rcases List.mem_cons.mp he with rfl | he
    · exact h'.1
    · exact deeps_mem h'.2 e he
theorem deeps_of : ∀ {l : List D}, (∀ d ∈ l, d.deep = true) → D.deeps l = true
  | [], _ => rfl
  | d :: ds, h => by
    simp only [D.deeps, Bool.and_eq_true]
    exact ⟨h d List.mem_cons_self, deeps_of fun e he => h e (List.mem_cons_of_mem _ he)⟩
/-- within bounds -/
def D.wi (lo hi : Int) : D → Bool
  | .int i => decide (lo ≤ i) && decide (i ≤ hi)
  | _ => false
def D.isTup : D → Bool
  | .tup _ => true
  | _ => false
def D.items : D → List D
  | .tup l => l
  | .lst l => l
  | _ => []
def ltD : D → D → Bool
  | .int i, .int j => decide (i < j)
  | _, _ => false
def rising (l : List D) : Bool := (l.zip (l.drop 1)).all fun p => ltD p.1 p.2
def tupOf (m : Int) : D → Bool
  | .tup l => (l.length : Int) == m
  | _ => false
def setB (hi : Int) : D → Bool
  | .tup l => l.all (D.wi 0 hi) && rising l
  | _ => false
def keyB (p d : Int) : D → Bool
  | .tup l => (l.length : Int) == p && l.all (D.wi 0 (d - 1))
  | _ => false
def lockB (p d m : Int) : D → Bool
  | .tup l => (l.length : Int) == p && l.all fun e => setB (d - 1) e && decide ((e.items.length : Int) ≤ m)
  | _ => false
section
variable {P : Prog} {I : Ix} {w n : Nat} {st : Store}
open Mini.P
theorem blsOf_map {α : Type} {f : α → Bool} : ∀ {l : List α}, blsOf (l.map fun d => .bl (f d)) = some (l.map f)
  | [] => rfl
  | d :: r => by simp only [List.map_cons, blsOf, blsOf_map (l := r), Option.map_some]
theorem all_id {α : Type} {f : α → Bool} {l : List α} : (l.map f).all id = l.all f := by simp [List.all_map]
structure B0 (P : Prog) (I : Ix) : Prop where
  h0 : P.defs (I.fn 0) = some (d_is_integer I)
  h1 : P.defs (I.fn 1) = some (d_is_within I)
  h2 : P.defs (I.fn 2) = some (d_is_row I)
  h3 : P.defs (I.fn 3) = some (d_is_tuple_of I)
  h6 : P.defs (I.fn 6) = some (d_Make_init I)
  h7 : P.defs (I.fn 7) = some (d_check_make I)
  h8 : P.defs (I.fn 8) = some (d_is_key I)
  hF : P.flds (I.cls 0) = [0, 1, 2]
  hI : P.ini (I.cls 0) = I.fn 6
  hC : P.chg (I.cls 0) = false
structure B1 (P : Prog) (I : Ix) : Prop where
  h9 : P.defs (I.fn 9) = some (d_check_key I)
  h14 : P.defs (I.fn 14) = some (d_fits I)
structure B2 (P : Prog) (I : Ix) : Prop where
  h4 : P.defs (I.fn 4) = some (d_is_set I)
  h5 : P.defs (I.fn 5) = some (d_rows_of I)
  h10 : P.defs (I.fn 10) = some (d_is_lock I)
  h12 : P.defs (I.fn 12) = some (d_check_locks I)
  h13 : P.defs (I.fn 13) = some (d_all_keys I)
theorem s_is_within (B : B0 P I) (h : 2 ≤ n) {d : D} (hd : d.gd = true) {lo hi : Int} : (callsN P w n).call (I.fn 1) [d, .int lo, .int hi] st = .ok (.bl (d.wi lo hi)) st := by
  obtain ⟨m, rfl⟩ := lev h
  rw [call_at B.h1 rfl]
  simp only [d_is_within, exs, ex, ev, evs, rb_ok, rb_exc, ro_ok, ro_exc, ob_nx, ob_rt, ob_exc, oo_some, rs_some, an_nx, an_rt, an_exc, bi_some, bi_some', FD.start, List.map_cons, List.map_nil, List.length_cons, List.length_nil, List.cons_append, List.nil_append, List.replicate, List.getElem?_cons_zero, List.getElem?_cons_succ, List.set_cons_zero, List.set_cons_succ, asg, asgs, asgN, asgNs, T.names, T.namess, wipeE, frzE, Option.map_some, if_true, if_false, reduceCtorEq, Nat.zero_add, Nat.reduceAdd, Nat.reduceSub, Nat.reduceLT, Nat.reduceLeDiff, E.isNon, D.isI, Bool.false_or, Bool.true_or, Bool.not_true, Bool.not_false, Bool.true_and, Bool.false_and, Bool.and_true, Bool.or_false, Bool.or_true, Bool.false_eq_true, o_add, o_sub, c_eqI, c_neI, c_lt, c_le, c_gt, c_ge, c_is, c_isnot, b_lenL, b_lenT, b_int, b_tupL, b_tupT, b_lstL, b_lstT, i_sL, i_sT, i_eL, i_eT, slT, slLs, sl1, isiD, tyD, s_is_integer B.h0 (Nat.le_add_left 1 m) hd]
  cases d <;> try rfl
  rename_i i
  simp only [exs, ex, ev, evs, rb_ok, rb_exc, ro_ok, ro_exc, ob_nx, ob_rt, ob_exc, oo_some, rs_some, an_nx, an_rt, an_exc, bi_some, bi_some', FD.start, List.map_cons, List.map_nil, List.length_cons, List.length_nil, List.cons_append, List.nil_append, List.replicate, List.getElem?_cons_zero, List.getElem?_cons_succ, List.set_cons_zero, List.set_cons_succ, asg, asgs, asgN, asgNs, T.names, T.namess, wipeE, frzE, Option.map_some, if_true, if_false, reduceCtorEq, Nat.zero_add, Nat.reduceAdd, Nat.reduceSub, Nat.reduceLT, Nat.reduceLeDiff, E.isNon, D.isI, Bool.false_or, Bool.true_or, Bool.not_true, Bool.not_false, Bool.true_and, Bool.false_and, Bool.and_true, Bool.or_false, Bool.or_true, Bool.false_eq_true, o_add, o_sub, c_eqI, c_neI, c_lt, c_le, c_gt, c_ge, c_is, c_isnot, b_lenL, b_lenT, b_int, b_tupL, b_tupT, b_lstL, b_lstT, i_sL, i_sT, i_eL, i_eT, slT, slLs, sl1, isiD, tyD, D.wi]
  by_cases c : lo ≤ i <;> simp [c, exs, ex, ev, evs, rb_ok, rb_exc, ro_ok, ro_exc, ob_nx, ob_rt, ob_exc, oo_some, rs_some, an_nx, an_rt, an_exc, bi_some, bi_some', FD.start, List.map_cons, List.map_nil, List.length_cons, List.length_nil, List.cons_append, List.nil_append, List.replicate, List.getElem?_cons_zero, List.getElem?_cons_succ, List.set_cons_zero, List.set_cons_succ, asg, asgs, asgN, asgNs, T.names, T.namess, wipeE, frzE, Option.map_some, if_true, if_false, reduceCtorEq, Nat.zero_add, Nat.reduceAdd, Nat.reduceSub, Nat.reduceLT, Nat.reduceLeDiff, E.isNon, D.isI, Bool.false_or, Bool.true_or, Bool.not_true, Bool.not_false, Bool.true_and, Bool.false_and, Bool.and_true, Bool.or_false, Bool.or_true, Bool.false_eq_true, o_add, o_sub, c_eqI, c_neI, c_lt, c_le, c_gt, c_ge, c_is, c_isnot, b_lenL, b_lenT, b_int, b_tupL, b_tupT, b_lstL, b_lstT, i_sL, i_sT, i_eL, i_eT, slT, slLs, sl1, isiD, tyD]
theorem s_is_row (B : B0 P I) (h : 1 ≤ n) {d : D} (hd : d.gd = true) : (callsN P w n).call (I.fn 2) [d] st = .ok (.bl (match d with | .lst _ => true | .tup _ => true | _ => false)) st := by
  obtain ⟨m, rfl⟩ := lev h
  rw [call_at B.h2 rfl]
  simp only [d_is_row, exs, ex, ev, evs, rb_ok, rb_exc, ro_ok, ro_exc, ob_nx, ob_rt, ob_exc, oo_some, rs_some, an_nx, an_rt, an_exc, bi_some, bi_some', FD.start, List.map_cons, List.map_nil, List.length_cons, List.length_nil, List.cons_append, List.nil_append, List.replicate, List.getElem?_cons_zero, List.getElem?_cons_succ, List.set_cons_zero, List.set_cons_succ, asg, asgs, asgN, asgNs, T.names, T.namess, wipeE, frzE, Option.map_some, if_true, if_false, reduceCtorEq, Nat.zero_add, Nat.reduceAdd, Nat.reduceSub, Nat.reduceLT, Nat.reduceLeDiff, E.isNon, D.isI, Bool.false_or, Bool.true_or, Bool.not_true, Bool.not_false, Bool.true_and, Bool.false_and, Bool.and_true, Bool.or_false, Bool.or_true, Bool.false_eq_true, o_add, o_sub, c_eqI, c_neI, c_lt, c_le, c_gt, c_ge, c_is, c_isnot, b_lenL, b_lenT, b_int, b_tupL, b_tupT, b_lstL, b_lstT, i_sL, i_sT, i_eL, i_eT, slT, slLs, sl1, isiD, tyD, shw_gd hd]
  cases d <;> first | rfl | cases hd
theorem s_is_tuple_of (B : B0 P I) (h : 1 ≤ n) {d : D} (hd : d.gd = true) {m : Int} : (callsN P w n).call (I.fn 3) [d, .int m] st = .ok (.bl (tupOf m d)) st := by
  obtain ⟨k, rfl⟩ := lev h
  rw [call_at B.h3 rfl]
  simp only [d_is_tuple_of, exs, ex, ev, evs, rb_ok, rb_exc, ro_ok, ro_exc, ob_nx, ob_rt, ob_exc, oo_some, rs_some, an_nx, an_rt, an_exc, bi_some, bi_some', FD.start, List.map_cons, List.map_nil, List.length_cons, List.length_nil, List.cons_append, List.nil_append, List.replicate, List.getElem?_cons_zero, List.getElem?_cons_succ, List.set_cons_zero, List.set_cons_succ, asg, asgs, asgN, asgNs, T.names, T.namess, wipeE, frzE, Option.map_some, if_true, if_false, reduceCtorEq, Nat.zero_add, Nat.reduceAdd, Nat.reduceSub, Nat.reduceLT, Nat.reduceLeDiff, E.isNon, D.isI, Bool.false_or, Bool.true_or, Bool.not_true, Bool.not_false, Bool.true_and, Bool.false_and, Bool.and_true, Bool.or_false, Bool.or_true, Bool.false_eq_true, o_add, o_sub, c_eqI, c_neI, c_lt, c_le, c_gt, c_ge, c_is, c_isnot, b_lenL, b_lenT, b_int, b_tupL, b_tupT, b_lstL, b_lstT, i_sL, i_sT, i_eL, i_eT, slT, slLs, sl1, isiD, tyD, shw_gd hd]
  cases d <;> first | rfl | cases hd | simp [exs, ex, ev, evs, rb_ok, rb_exc, ro_ok, ro_exc, ob_nx, ob_rt, ob_exc, oo_some, rs_some, an_nx, an_rt, an_exc, bi_some, bi_some', FD.start, List.map_cons, List.map_nil, List.length_cons, List.length_nil, List.cons_append, List.nil_append, List.replicate, List.getElem?_cons_zero, List.getElem?_cons_succ, List.set_cons_zero, List.set_cons_succ, asg, asgs, asgN, asgNs, T.names, T.namess, wipeE, frzE, Option.map_some, if_true, if_false, reduceCtorEq, Nat.zero_add, Nat.reduceAdd, Nat.reduceSub, Nat.reduceLT, Nat.reduceLeDiff, E.isNon, D.isI, Bool.false_or, Bool.true_or, Bool.not_true, Bool.not_false, Bool.true_and, Bool.false_and, Bool.and_true, Bool.or_false, Bool.or_true, Bool.false_eq_true, o_add, o_sub, c_eqI, c_neI, c_lt, c_le, c_gt, c_ge, c_is, c_isnot, b_lenL, b_lenT, b_int, b_tupL, b_tupT, b_lstL, b_lstT, i_sL, i_sT, i_eL, i_eT, slT, slLs, sl1, isiD, tyD, tupOf]
theorem zip_wi {hi : Int} {l : List D} (h : l.all (D.wi 0 hi) = true) : ∀ p ∈ l.zip (l.drop 1), ∃ i j, p = (.int i, .int j) := fun p hp => by
  obtain ⟨a, b⟩ := p
  have ha := List.all_eq_true.mp h a (List.of_mem_zip hp).1
  have hb := List.all_eq_true.mp h b (List.mem_of_mem_drop (List.of_mem_zip hp).2)
  cases a <;> simp [D.wi] at ha
  cases b <;> simp [D.wi] at hb
  exact ⟨_, _, rfl⟩
theorem s_is_set (B : B0 P I) (L : B2 P I) (h : 3 ≤ n) {d : D} (hd : d.deep = true) (hl : d.items.length ≤ 1000000) {hi : Int} :
    (callsN P w n).call (I.fn 4) [d, .int hi] st = .ok (.bl (setB hi d)) st := by
  obtain ⟨k, rfl⟩ := lev h
  rw [call_at L.h4 rfl]
  cases d with
  | tup l =>
    have hm := deeps_mem (l := l) (by simpa [D.deep] using hd)
    have hl : l.length ≤ maxLen := hl
    simp only [d_is_set, exs, ex, ev, evs, rb_ok, rb_exc, ro_ok, ro_exc, ob_nx, ob_rt, ob_exc, oo_some, rs_some, an_nx, an_rt, an_exc, bi_some, bi_some', FD.start, List.map_cons, List.map_nil, List.length_cons, List.length_nil, List.cons_append, List.nil_append, List.replicate, List.getElem?_cons_zero, List.getElem?_cons_succ, List.set_cons_zero, List.set_cons_succ, asg, asgs, asgN, asgNs, T.names, T.namess, wipeE, frzE, Option.map_some, if_true, if_false, reduceCtorEq, Nat.zero_add, Nat.reduceAdd, Nat.reduceSub, Nat.reduceLT, Nat.reduceLeDiff, E.isNon, D.isI, Bool.false_or, Bool.true_or, Bool.not_true, Bool.not_false, Bool.true_and, Bool.false_and, Bool.and_true, Bool.or_false, Bool.or_true, Bool.false_eq_true, o_add, o_sub, c_eqI, c_neI, c_lt, c_le, c_gt, c_ge, c_is, c_isnot, b_lenL, b_lenT, b_int, b_tupL, b_tupT, b_lstL, b_lstT, i_sL, i_sT, i_eL, i_eT, slT, slLs, sl1, isiD, tyD, shw]
    rw [compL_map (f := fun d => .bl (d.wi 0 hi)) fun d hd => by
      simp only [exs, ex, ev, evs, rb_ok, rb_exc, ro_ok, ro_exc, ob_nx, ob_rt, ob_exc, oo_some, rs_some, an_nx, an_rt, an_exc, bi_some, bi_some', FD.start, List.map_cons, List.map_nil, List.length_cons, List.length_nil, List.cons_append, List.nil_append, List.replicate, List.getElem?_cons_zero, List.getElem?_cons_succ, List.set_cons_zero, List.set_cons_succ, asg, asgs, asgN, asgNs, T.names, T.namess, wipeE, frzE, Option.map_some, if_true, if_false, reduceCtorEq, Nat.zero_add, Nat.reduceAdd, Nat.reduceSub, Nat.reduceLT, Nat.reduceLeDiff, E.isNon, D.isI, Bool.false_or, Bool.true_or, Bool.not_true, Bool.not_false, Bool.true_and, Bool.false_and, Bool.and_true, Bool.or_false, Bool.or_true, Bool.false_eq_true, o_add, o_sub, c_eqI, c_neI, c_lt, c_le, c_gt, c_ge, c_is, c_isnot, b_lenL, b_lenT, b_int, b_tupL, b_tupT, b_lstL, b_lstT, i_sL, i_sT, i_eL, i_eT, slT, slLs, sl1, isiD, tyD, s_is_within B (Nat.le_add_left 2 k) (deep_gd (hm d hd))]]
    simp only [exs, ex, ev, evs, rb_ok, rb_exc, ro_ok, ro_exc, ob_nx, ob_rt, ob_exc, oo_some, rs_some, an_nx, an_rt, an_exc, bi_some, bi_some', FD.start, List.map_cons, List.map_nil, List.length_cons, List.length_nil, List.cons_append, List.nil_append, List.replicate, List.getElem?_cons_zero, List.getElem?_cons_succ, List.set_cons_zero, List.set_cons_succ, asg, asgs, asgN, asgNs, T.names, T.namess, wipeE, frzE, Option.map_some, if_true, if_false, reduceCtorEq, Nat.zero_add, Nat.reduceAdd, Nat.reduceSub, Nat.reduceLT, Nat.reduceLeDiff, E.isNon, D.isI, Bool.false_or, Bool.true_or, Bool.not_true, Bool.not_false, Bool.true_and, Bool.false_and, Bool.and_true, Bool.or_false, Bool.or_true, Bool.false_eq_true, o_add, o_sub, c_eqI, c_neI, c_lt, c_le, c_gt, c_ge, c_is, c_isnot, b_lenL, b_lenT, b_int, b_tupL, b_tupT, b_lstL, b_lstT, i_sL, i_sT, i_eL, i_eT, slT, slLs, sl1, isiD, tyD, List.length_map, hl, b_all blsOf_map, all_id]
    cases e : l.all (D.wi 0 hi) with
    | false => simp [setB, e, exs, ex, ev, evs, rb_ok, rb_exc, ro_ok, ro_exc, ob_nx, ob_rt, ob_exc, oo_some, rs_some, an_nx, an_rt, an_exc, bi_some, bi_some', FD.start, List.map_cons, List.map_nil, List.length_cons, List.length_nil, List.cons_append, List.nil_append, List.replicate, List.getElem?_cons_zero, List.getElem?_cons_succ, List.set_cons_zero, List.set_cons_succ, asg, asgs, asgN, asgNs, T.names, T.namess, wipeE, frzE, Option.map_some, if_true, if_false, reduceCtorEq, Nat.zero_add, Nat.reduceAdd, Nat.reduceSub, Nat.reduceLT, Nat.reduceLeDiff, E.isNon, D.isI, Bool.false_or, Bool.true_or, Bool.not_true, Bool.not_false, Bool.true_and, Bool.false_and, Bool.and_true, Bool.or_false, Bool.or_true, Bool.false_eq_true, o_add, o_sub, c_eqI, c_neI, c_lt, c_le, c_gt, c_ge, c_is, c_isnot, b_lenL, b_lenT, b_int, b_tupL, b_tupT, b_lstL, b_lstT, i_sL, i_sT, i_eL, i_eT, slT, slLs, sl1, isiD, tyD]
    | true =>
      simp only [exs, ex, ev, evs, rb_ok, rb_exc, ro_ok, ro_exc, ob_nx, ob_rt, ob_exc, oo_some, rs_some, an_nx, an_rt, an_exc, bi_some, bi_some', FD.start, List.map_cons, List.map_nil, List.length_cons, List.length_nil, List.cons_append, List.nil_append, List.replicate, List.getElem?_cons_zero, List.getElem?_cons_succ, List.set_cons_zero, List.set_cons_succ, asg, asgs, asgN, asgNs, T.names, T.namess, wipeE, frzE, Option.map_some, if_true, if_false, reduceCtorEq, Nat.zero_add, Nat.reduceAdd, Nat.reduceSub, Nat.reduceLT, Nat.reduceLeDiff, E.isNon, D.isI, Bool.false_or, Bool.true_or, Bool.not_true, Bool.not_false, Bool.true_and, Bool.false_and, Bool.and_true, Bool.or_false, Bool.or_true, Bool.false_eq_true, o_add, o_sub, c_eqI, c_neI, c_lt, c_le, c_gt, c_ge, c_is, c_isnot, b_lenL, b_lenT, b_int, b_tupL, b_tupT, b_lstL, b_lstT, i_sL, i_sT, i_eL, i_eT, slT, slLs, sl1, isiD, tyD, i_zp (a := .tup l) (b := .tup (l.drop 1)) rfl rfl]
      rw [compL_map (f := fun d => .bl (match d with | .tup [a, b] => ltD a b | _ => false)) fun d hd => by
        obtain ⟨p, hp, rfl⟩ := List.mem_map.mp hd
        obtain ⟨i, j, rfl⟩ := zip_wi e p hp
        simp only [exs, ex, ev, evs, rb_ok, rb_exc, ro_ok, ro_exc, ob_nx, ob_rt, ob_exc, oo_some, rs_some, an_nx, an_rt, an_exc, bi_some, bi_some', FD.start, List.map_cons, List.map_nil, List.length_cons, List.length_nil, List.cons_append, List.nil_append, List.replicate, List.getElem?_cons_zero, List.getElem?_cons_succ, List.set_cons_zero, List.set_cons_succ, asg, asgs, asgN, asgNs, T.names, T.namess, wipeE, frzE, Option.map_some, if_true, if_false, reduceCtorEq, Nat.zero_add, Nat.reduceAdd, Nat.reduceSub, Nat.reduceLT, Nat.reduceLeDiff, E.isNon, D.isI, Bool.false_or, Bool.true_or, Bool.not_true, Bool.not_false, Bool.true_and, Bool.false_and, Bool.and_true, Bool.or_false, Bool.or_true, Bool.false_eq_true, o_add, o_sub, c_eqI, c_neI, c_lt, c_le, c_gt, c_ge, c_is, c_isnot, b_lenL, b_lenT, b_int, b_tupL, b_tupT, b_lstL, b_lstT, i_sL, i_sT, i_eL, i_eT, slT, slLs, sl1, isiD, tyD, ltD]]
      rw [List.map_map]
      have hz : (l.zip (l.drop 1)).length ≤ maxLen := by
        rw [List.length_zip]
        omega
      simp only [exs, ex, ev, evs, rb_ok, rb_exc, ro_ok, ro_exc, ob_nx, ob_rt, ob_exc, oo_some, rs_some, an_nx, an_rt, an_exc, bi_some, bi_some', FD.start, List.map_cons, List.map_nil, List.length_cons, List.length_nil, List.cons_append, List.nil_append, List.replicate, List.getElem?_cons_zero, List.getElem?_cons_succ, List.set_cons_zero, List.set_cons_succ, asg, asgs, asgN, asgNs, T.names, T.namess, wipeE, frzE, Option.map_some, if_true, if_false, reduceCtorEq, Nat.zero_add, Nat.reduceAdd, Nat.reduceSub, Nat.reduceLT, Nat.reduceLeDiff, E.isNon, D.isI, Bool.false_or, Bool.true_or, Bool.not_true, Bool.not_false, Bool.true_and, Bool.false_and, Bool.and_true, Bool.or_false, Bool.or_true, Bool.false_eq_true, o_add, o_sub, c_eqI, c_neI, c_lt, c_le, c_gt, c_ge, c_is, c_isnot, b_lenL, b_lenT, b_int, b_tupL, b_tupT, b_lstL, b_lstT, i_sL, i_sT, i_eL, i_eT, slT, slLs, sl1, isiD, tyD, List.length_map, hz, Function.comp_def, b_all blsOf_map, all_id, setB, e, rising]
  | ins c fs =>
    have hg := shw_gd (st := st) (deep_gd hd)
    simp [d_is_set, exs, ex, ev, evs, rb_ok, rb_exc, ro_ok, ro_exc, ob_nx, ob_rt, ob_exc, oo_some, rs_some, an_nx, an_rt, an_exc, bi_some, bi_some', FD.start, List.map_cons, List.map_nil, List.length_cons, List.length_nil, List.cons_append, List.nil_append, List.replicate, List.getElem?_cons_zero, List.getElem?_cons_succ, List.set_cons_zero, List.set_cons_succ, asg, asgs, asgN, asgNs, T.names, T.namess, wipeE, frzE, Option.map_some, if_true, if_false, reduceCtorEq, Nat.zero_add, Nat.reduceAdd, Nat.reduceSub, Nat.reduceLT, Nat.reduceLeDiff, E.isNon, D.isI, Bool.false_or, Bool.true_or, Bool.not_true, Bool.not_false, Bool.true_and, Bool.false_and, Bool.and_true, Bool.or_false, Bool.or_true, Bool.false_eq_true, o_add, o_sub, c_eqI, c_neI, c_lt, c_le, c_gt, c_ge, c_is, c_isnot, b_lenL, b_lenT, b_int, b_tupL, b_tupT, b_lstL, b_lstT, i_sL, i_sT, i_eL, i_eT, slT, slLs, sl1, isiD, tyD, hg, setB]
  | _ => first | (simp [D.deep] at hd; done) | (simp [d_is_set, exs, ex, ev, evs, rb_ok, rb_exc, ro_ok, ro_exc, ob_nx, ob_rt, ob_exc, oo_some, rs_some, an_nx, an_rt, an_exc, bi_some, bi_some', FD.start, List.map_cons, List.map_nil, List.length_cons, List.length_nil, List.cons_append, List.nil_append, List.replicate, List.getElem?_cons_zero, List.getElem?_cons_succ, List.set_cons_zero, List.set_cons_succ, asg, asgs, asgN, asgNs, T.names, T.namess, wipeE, frzE, Option.map_some, if_true, if_false, reduceCtorEq, Nat.zero_add, Nat.reduceAdd, Nat.reduceSub, Nat.reduceLT, Nat.reduceLeDiff, E.isNon, D.isI, Bool.false_or, Bool.true_or, Bool.not_true, Bool.not_false, Bool.true_and, Bool.false_and, Bool.and_true, Bool.or_false, Bool.or_true, Bool.false_eq_true, o_add, o_sub, c_eqI, c_neI, c_lt, c_le, c_gt, c_ge, c_is, c_isnot, b_lenL, b_lenT, b_int, b_tupL, b_tupT, b_lstL, b_lstT, i_sL, i_sT, i_eL, i_eT, slT, slLs, sl1, isiD, tyD, shw, setB]; done)
/-! ### rows -/
def rowsD (some : List D) : Nat → List D
  | 0 => [.tup []]
  | k + 1 => (rowsD some k).flatMap fun row => some.map fun one => .tup (row.items ++ [one])
theorem rowsD_tup {some : List D} : ∀ {k : Nat}, ∀ r ∈ rowsD some k, ∃ l, r = .tup l ∧ l.length = k
  | 0, r, h => ⟨[], by simpa [rowsD] using h, rfl⟩
  | k + 1, r, h => by
    simp only [rowsD, List.mem_flatMap, List.mem_map] at h
    obtain ⟨q, hq, o, ho, rfl⟩ := h
    obtain ⟨l, rfl, hl⟩ := rowsD_tup q hq
    exact ⟨l ++ [o], rfl, by simp [hl]⟩
theorem s_rows_of (L : B2 P I) (h : 1 ≤ n) {some : List D} {m : Int} (h0 : 0 ≤ m) (hm : m ≤ 1000) (hs : some.length ≤ 1000000) (hb : ∀ k, k ≤ m.toNat → (rowsD some k).length ≤ 1000000) :
    (callsN P w n).call (I.fn 5) [.lst some, .int m] st = .ok (.lst (rowsD some m.toNat)) st := by
  obtain ⟨k, rfl⟩ := lev h
  rw [call_at L.h5 rfl]
  simp only [d_rows_of, exs, ex, ev, evs, rb_ok, rb_exc, ro_ok, ro_exc, ob_nx, ob_rt, ob_exc, oo_some, rs_some, an_nx, an_rt, an_exc, bi_some, bi_some', FD.start, List.map_cons, List.map_nil, List.length_cons, List.length_nil, List.cons_append, List.nil_append, List.replicate, List.getElem?_cons_zero, List.getElem?_cons_succ, List.set_cons_zero, List.set_cons_succ, asg, asgs, asgN, asgNs, T.names, T.namess, wipeE, frzE, Option.map_some, if_true, if_false, reduceCtorEq, Nat.zero_add, Nat.reduceAdd, Nat.reduceSub, Nat.reduceLT, Nat.reduceLeDiff, E.isNon, D.isI, Bool.false_or, Bool.true_or, Bool.not_true, Bool.not_false, Bool.true_and, Bool.false_and, Bool.and_true, Bool.or_false, Bool.or_true, Bool.false_eq_true, o_add, o_sub, c_eqI, c_neI, c_lt, c_le, c_gt, c_ge, c_is, c_isnot, b_lenL, b_lenT, b_int, b_tupL, b_tupT, b_lstL, b_lstT, i_sL, i_sT, i_eL, i_eT, slT, slLs, sl1, isiD, tyD, i_rn (show m ≤ 1000000 by omega) (show -1000000 ≤ m by omega)]
  have big : some.length ≤ maxLen := hs
  have inner : ∀ (j : Nat) (a b c d : Slot), j + 1 ≤ m.toNat → ∃ c' d', forL (fun d ρ st => Out.ofOpt (asgN (.nm 5) d ρ) fun ρ1 => exs P (callsN P w k) w [.extd 4 (.comp (.bin .add (.var 5) (.tup [.var 6])) (.nm 6) .seq [.var 0] (.k (.bl true)))] ρ1 st)
      (rowsD some j) [.val (.lst some), .val (.int m), .val (.lst (rowsD some j)), b, .own [], c, d] st = .nx [.val (.lst some), .val (.int m), .val (.lst (rowsD some j)), b, .own (rowsD some (j + 1)), c', d'] st := by
    intro j a b c d hj
    obtain ⟨ρ', st'', e, rfl, _, c, d2, acc, hacc, rfl⟩ := forL_inv (fun r ρ st'' => st'' = st ∧ (∀ q ∈ r, ∃ l, q = D.tup l ∧ l.length = j) ∧ ∃ c d acc, acc ++ (r.flatMap fun row => some.map fun one => D.tup (row.items ++ [one])) = rowsD some (j + 1) ∧ ρ = [.val (.lst some), .val (.int m), .val (.lst (rowsD some j)), b, .own acc, c, d]) (items := rowsD some j)
      (turn := fun d ρ st => Out.ofOpt (asgN (.nm 5) d ρ) fun ρ1 => exs P (callsN P w k) w [.extd 4 (.comp (.bin .add (.var 5) (.tup [.var 6])) (.nm 6) .seq [.var 0] (.k (.bl true)))] ρ1 st)
      (ρ := [.val (.lst some), .val (.int m), .val (.lst (rowsD some j)), b, .own [], c, d]) (st := st) ⟨rfl, rowsD_tup, c, d, [], by simp [rowsD], rfl⟩ (by
        rintro q r ρ st'' ⟨rfl, hq, c, d2, acc, hacc, rfl⟩
        obtain ⟨l, rfl, hl⟩ := hq q List.mem_cons_self
        have hb1 := hb (j + 1) hj
        simp only [exs, ex, ev, evs, rb_ok, rb_exc, ro_ok, ro_exc, ob_nx, ob_rt, ob_exc, oo_some, rs_some, an_nx, an_rt, an_exc, bi_some, bi_some', FD.start, List.map_cons, List.map_nil, List.length_cons, List.length_nil, List.cons_append, List.nil_append, List.replicate, List.getElem?_cons_zero, List.getElem?_cons_succ, List.set_cons_zero, List.set_cons_succ, asg, asgs, asgN, asgNs, T.names, T.namess, wipeE, frzE, Option.map_some, if_true, if_false, reduceCtorEq, Nat.zero_add, Nat.reduceAdd, Nat.reduceSub, Nat.reduceLT, Nat.reduceLeDiff, E.isNon, D.isI, Bool.false_or, Bool.true_or, Bool.not_true, Bool.not_false, Bool.true_and, Bool.false_and, Bool.and_true, Bool.or_false, Bool.or_true, Bool.false_eq_true, o_add, o_sub, c_eqI, c_neI, c_lt, c_le, c_gt, c_ge, c_is, c_isnot, b_lenL, b_lenT, b_int, b_tupL, b_tupT, b_lstL, b_lstT, i_sL, i_sT, i_eL, i_eT, slT, slLs, sl1, isiD, tyD]
        rw [compL_map (f := fun d => .tup (l ++ [d])) fun d hd => by
          rw [o_addT (by simp [hl]; omega)]
          rfl]
        have hlen : acc.length + (some.map fun d => D.tup (l ++ [d])).length ≤ maxLen := by
          rw [← hacc] at hb1
          simp only [List.flatMap_cons, List.length_append, List.length_map] at hb1 ⊢
          exact Nat.le_trans (by omega) hb1
        simp only [exs, ex, ev, evs, rb_ok, rb_exc, ro_ok, ro_exc, ob_nx, ob_rt, ob_exc, oo_some, rs_some, an_nx, an_rt, an_exc, bi_some, bi_some', FD.start, List.map_cons, List.map_nil, List.length_cons, List.length_nil, List.cons_append, List.nil_append, List.replicate, List.getElem?_cons_zero, List.getElem?_cons_succ, List.set_cons_zero, List.set_cons_succ, asg, asgs, asgN, asgNs, T.names, T.namess, wipeE, frzE, Option.map_some, if_true, if_false, reduceCtorEq, Nat.zero_add, Nat.reduceAdd, Nat.reduceSub, Nat.reduceLT, Nat.reduceLeDiff, E.isNon, D.isI, Bool.false_or, Bool.true_or, Bool.not_true, Bool.not_false, Bool.true_and, Bool.false_and, Bool.and_true, Bool.or_false, Bool.or_true, Bool.false_eq_true, o_add, o_sub, c_eqI, c_neI, c_lt, c_le, c_gt, c_ge, c_is, c_isnot, b_lenL, b_lenT, b_int, b_tupL, b_tupT, b_lstL, b_lstT, i_sL, i_sT, i_eL, i_eT, slT, slLs, sl1, isiD, tyD, List.length_map, big, catL] at hlen ⊢
        simp only [hlen, exs, ex, ev, evs, rb_ok, rb_exc, ro_ok, ro_exc, ob_nx, ob_rt, ob_exc, oo_some, rs_some, an_nx, an_rt, an_exc, bi_some, bi_some', FD.start, List.map_cons, List.map_nil, List.length_cons, List.length_nil, List.cons_append, List.nil_append, List.replicate, List.getElem?_cons_zero, List.getElem?_cons_succ, List.set_cons_zero, List.set_cons_succ, asg, asgs, asgN, asgNs, T.names, T.namess, wipeE, frzE, Option.map_some, if_true, if_false, reduceCtorEq, Nat.zero_add, Nat.reduceAdd, Nat.reduceSub, Nat.reduceLT, Nat.reduceLeDiff, E.isNon, D.isI, Bool.false_or, Bool.true_or, Bool.not_true, Bool.not_false, Bool.true_and, Bool.false_and, Bool.and_true, Bool.or_false, Bool.or_true, Bool.false_eq_true, o_add, o_sub, c_eqI, c_neI, c_lt, c_le, c_gt, c_ge, c_is, c_isnot, b_lenL, b_lenT, b_int, b_tupL, b_tupT, b_lstL, b_lstT, i_sL, i_sT, i_eL, i_eT, slT, slLs, sl1, isiD, tyD]
        exact ⟨_, _, rfl, rfl, fun q hq' => hq q (List.mem_cons_of_mem _ hq'), _, _, _, by rw [← hacc]; simp [D.items], rfl⟩)
    simp only [List.flatMap_nil, List.append_nil] at hacc
    subst hacc
    exact ⟨_, _, e⟩
  obtain ⟨ρ', st', e, rfl, j, a, b, c, d, hj, rfl⟩ := forL_inv (fun r ρ st' => st' = st ∧ ∃ j a b c d, j + r.length = m.toNat ∧ ρ = [.val (.lst some), .val (.int m), .val (.lst (rowsD some j)), a, b, c, d]) (items := (List.range m.toNat).map fun (k : Nat) => D.int (k : Int))
    (turn := fun d ρ st => Out.ofOpt (asgN (.nm 3) d ρ) fun ρ1 => exs P (callsN P w k) w [.set (.own 4) (.lst []), .for_ (.nm 5) .seq [.var 2] [.extd 4 (.comp (.bin .add (.var 5) (.tup [.var 6])) (.nm 6) .seq [.var 0] (.k (.bl true)))], .frz 4, .set (.nm 2) (.var 4)] ρ1 st)
    (ρ := [.val (.lst some), .val (.int m), .val (.lst [.tup []]), .no, .no, .no, .no]) (st := st) ⟨rfl, 0, _, _, _, _, by simp, rfl⟩ (by
      rintro d r ρ st' ⟨rfl, j, a, b, c, d', hj, rfl⟩
      have hj' : j + 1 ≤ m.toNat := by simp at hj; omega
      obtain ⟨c2, d2, e⟩ := inner j a (.val d) c d' hj'
      simp only [exs, ex, ev, evs, rb_ok, rb_exc, ro_ok, ro_exc, ob_nx, ob_rt, ob_exc, oo_some, rs_some, an_nx, an_rt, an_exc, bi_some, bi_some', FD.start, List.map_cons, List.map_nil, List.length_cons, List.length_nil, List.cons_append, List.nil_append, List.replicate, List.getElem?_cons_zero, List.getElem?_cons_succ, List.set_cons_zero, List.set_cons_succ, asg, asgs, asgN, asgNs, T.names, T.namess, wipeE, frzE, Option.map_some, if_true, if_false, reduceCtorEq, Nat.zero_add, Nat.reduceAdd, Nat.reduceSub, Nat.reduceLT, Nat.reduceLeDiff, E.isNon, D.isI, Bool.false_or, Bool.true_or, Bool.not_true, Bool.not_false, Bool.true_and, Bool.false_and, Bool.and_true, Bool.or_false, Bool.or_true, Bool.false_eq_true, o_add, o_sub, c_eqI, c_neI, c_lt, c_le, c_gt, c_ge, c_is, c_isnot, b_lenL, b_lenT, b_int, b_tupL, b_tupT, b_lstL, b_lstT, i_sL, i_sT, i_eL, i_eT, slT, slLs, sl1, isiD, tyD] at e ⊢
      rw [e]
      simp only [exs, ex, ev, evs, rb_ok, rb_exc, ro_ok, ro_exc, ob_nx, ob_rt, ob_exc, oo_some, rs_some, an_nx, an_rt, an_exc, bi_some, bi_some', FD.start, List.map_cons, List.map_nil, List.length_cons, List.length_nil, List.cons_append, List.nil_append, List.replicate, List.getElem?_cons_zero, List.getElem?_cons_succ, List.set_cons_zero, List.set_cons_succ, asg, asgs, asgN, asgNs, T.names, T.namess, wipeE, frzE, Option.map_some, if_true, if_false, reduceCtorEq, Nat.zero_add, Nat.reduceAdd, Nat.reduceSub, Nat.reduceLT, Nat.reduceLeDiff, E.isNon, D.isI, Bool.false_or, Bool.true_or, Bool.not_true, Bool.not_false, Bool.true_and, Bool.false_and, Bool.and_true, Bool.or_false, Bool.or_true, Bool.false_eq_true, o_add, o_sub, c_eqI, c_neI, c_lt, c_le, c_gt, c_ge, c_is, c_isnot, b_lenL, b_lenT, b_int, b_tupL, b_tupT, b_lstL, b_lstT, i_sL, i_sT, i_eL, i_eT, slT, slLs, sl1, isiD, tyD]
      exact ⟨_, _, rfl, rfl, j + 1, _, _, _, _, by simp at hj; omega, rfl⟩)
  have hm : j = m.toNat := by simpa using hj
  subst hm
  simp only [exs, ex, ev, evs, rb_ok, rb_exc, ro_ok, ro_exc, ob_nx, ob_rt, ob_exc, oo_some, rs_some, an_nx, an_rt, an_exc, bi_some, bi_some', FD.start, List.map_cons, List.map_nil, List.length_cons, List.length_nil, List.cons_append, List.nil_append, List.replicate, List.getElem?_cons_zero, List.getElem?_cons_succ, List.set_cons_zero, List.set_cons_succ, asg, asgs, asgN, asgNs, T.names, T.namess, wipeE, frzE, Option.map_some, if_true, if_false, reduceCtorEq, Nat.zero_add, Nat.reduceAdd, Nat.reduceSub, Nat.reduceLT, Nat.reduceLeDiff, E.isNon, D.isI, Bool.false_or, Bool.true_or, Bool.not_true, Bool.not_false, Bool.true_and, Bool.false_and, Bool.and_true, Bool.or_false, Bool.or_true, Bool.false_eq_true, o_add, o_sub, c_eqI, c_neI, c_lt, c_le, c_gt, c_ge, c_is, c_isnot, b_lenL, b_lenT, b_int, b_tupL, b_tupT, b_lstL, b_lstT, i_sL, i_sT, i_eL, i_eT, slT, slLs, sl1, isiD, tyD] at e ⊢
  rw [e]
  simp only [exs, ex, ev, evs, rb_ok, rb_exc, ro_ok, ro_exc, ob_nx, ob_rt, ob_exc, oo_some, rs_some, an_nx, an_rt, an_exc, bi_some, bi_some', FD.start, List.map_cons, List.map_nil, List.length_cons, List.length_nil, List.cons_append, List.nil_append, List.replicate, List.getElem?_cons_zero, List.getElem?_cons_succ, List.set_cons_zero, List.set_cons_succ, asg, asgs, asgN, asgNs, T.names, T.namess, wipeE, frzE, Option.map_some, if_true, if_false, reduceCtorEq, Nat.zero_add, Nat.reduceAdd, Nat.reduceSub, Nat.reduceLT, Nat.reduceLeDiff, E.isNon, D.isI, Bool.false_or, Bool.true_or, Bool.not_true, Bool.not_false, Bool.true_and, Bool.false_and, Bool.and_true, Bool.or_false, Bool.or_true, Bool.false_eq_true, o_add, o_sub, c_eqI, c_neI, c_lt, c_le, c_gt, c_ge, c_is, c_isnot, b_lenL, b_lenT, b_int, b_tupL, b_tupT, b_lstL, b_lstT, i_sL, i_sT, i_eL, i_eT, slT, slLs, sl1, isiD, tyD]
/-! ### the make -/
abbrev mkD (I : Ix) (p d m : Int) : D := .ins (I.cls 0) [.int p, .int d, .int m]
theorem gf0 (B : B0 P I) {a b c : D} : getFld P st (.ins (I.cls 0) [a, b, c]) 0 = some a := by simp [getFld, B.hF, List.findIdx?_cons]
theorem gf1 (B : B0 P I) {a b c : D} : getFld P st (.ins (I.cls 0) [a, b, c]) 1 = some b := by simp [getFld, B.hF, List.findIdx?_cons]
theorem gf2 (B : B0 P I) {a b c : D} : getFld P st (.ins (I.cls 0) [a, b, c]) 2 = some c := by simp [getFld, B.hF, List.findIdx?_cons]
theorem s_check_make (B : B0 P I) (h : 1 ≤ n) {p d m : Int} : (callsN P w n).call (I.fn 7) [mkD I p d m] st = .ok .non st := by
  obtain ⟨k, rfl⟩ := lev h
  rw [call_at B.h7 rfl]
  simp [d_check_make, exs, ex, ev, evs, rb_ok, rb_exc, ro_ok, ro_exc, ob_nx, ob_rt, ob_exc, oo_some, rs_some, an_nx, an_rt, an_exc, bi_some, bi_some', FD.start, List.map_cons, List.map_nil, List.length_cons, List.length_nil, List.cons_append, List.nil_append, List.replicate, List.getElem?_cons_zero, List.getElem?_cons_succ, List.set_cons_zero, List.set_cons_succ, asg, asgs, asgN, asgNs, T.names, T.namess, wipeE, frzE, Option.map_some, if_true, if_false, reduceCtorEq, Nat.zero_add, Nat.reduceAdd, Nat.reduceSub, Nat.reduceLT, Nat.reduceLeDiff, E.isNon, D.isI, Bool.false_or, Bool.true_or, Bool.not_true, Bool.not_false, Bool.true_and, Bool.false_and, Bool.and_true, Bool.or_false, Bool.or_true, Bool.false_eq_true, o_add, o_sub, c_eqI, c_neI, c_lt, c_le, c_gt, c_ge, c_is, c_isnot, b_lenL, b_lenT, b_int, b_tupL, b_tupT, b_lstL, b_lstT, i_sL, i_sT, i_eL, i_eT, slT, slLs, sl1, isiD, tyD, shw, mkD]
theorem x_check_make (B : B0 P I) (h : 1 ≤ n) {d : D} (hd : d.gd = true) (hn : ∀ c fs, d ≠ .ins c fs) : (callsN P w n).call (I.fn 7) [d] st = .exc (I.exc 3) d st := by
  obtain ⟨k, rfl⟩ := lev h
  rw [call_at B.h7 rfl]
  simp only [d_check_make, exs, ex, ev, evs, rb_ok, rb_exc, ro_ok, ro_exc, ob_nx, ob_rt, ob_exc, oo_some, rs_some, an_nx, an_rt, an_exc, bi_some, bi_some', FD.start, List.map_cons, List.map_nil, List.length_cons, List.length_nil, List.cons_append, List.nil_append, List.replicate, List.getElem?_cons_zero, List.getElem?_cons_succ, List.set_cons_zero, List.set_cons_succ, asg, asgs, asgN, asgNs, T.names, T.namess, wipeE, frzE, Option.map_some, if_true, if_false, reduceCtorEq, Nat.zero_add, Nat.reduceAdd, Nat.reduceSub, Nat.reduceLT, Nat.reduceLeDiff, E.isNon, D.isI, Bool.false_or, Bool.true_or, Bool.not_true, Bool.not_false, Bool.true_and, Bool.false_and, Bool.and_true, Bool.or_false, Bool.or_true, Bool.false_eq_true, o_add, o_sub, c_eqI, c_neI, c_lt, c_le, c_gt, c_ge, c_is, c_isnot, b_lenL, b_lenT, b_int, b_tupL, b_tupT, b_lstL, b_lstT, i_sL, i_sT, i_eL, i_eT, slT, slLs, sl1, isiD, tyD, shw_gd hd]
  cases d <;> first | rfl | cases hd | exact absurd rfl (hn _ _)
theorem s_is_key (B : B0 P I) (h : 3 ≤ n)
    {p d m : Int} {t : D} (ht : t.deep = true) (hl : t.items.length ≤ 1000000) : (callsN P w n).call (I.fn 8) [mkD I p d m, t] st = .ok (.bl (keyB p d t)) st := by
  obtain ⟨k, rfl⟩ := lev h
  rw [call_at B.h8 rfl]
  simp only [d_is_key, exs, ex, ev, evs, rb_ok, rb_exc, ro_ok, ro_exc, ob_nx, ob_rt, ob_exc, oo_some, rs_some, an_nx, an_rt, an_exc, bi_some, bi_some', FD.start, List.map_cons, List.map_nil, List.length_cons, List.length_nil, List.cons_append, List.nil_append, List.replicate, List.getElem?_cons_zero, List.getElem?_cons_succ, List.set_cons_zero, List.set_cons_succ, asg, asgs, asgN, asgNs, T.names, T.namess, wipeE, frzE, Option.map_some, if_true, if_false, reduceCtorEq, Nat.zero_add, Nat.reduceAdd, Nat.reduceSub, Nat.reduceLT, Nat.reduceLeDiff, E.isNon, D.isI, Bool.false_or, Bool.true_or, Bool.not_true, Bool.not_false, Bool.true_and, Bool.false_and, Bool.and_true, Bool.or_false, Bool.or_true, Bool.false_eq_true, o_add, o_sub, c_eqI, c_neI, c_lt, c_le, c_gt, c_ge, c_is, c_isnot, b_lenL, b_lenT, b_int, b_tupL, b_tupT, b_lstL, b_lstT, i_sL, i_sT, i_eL, i_eT, slT, slLs, sl1, isiD, tyD, s_check_make B (show 1 ≤ k + 2 by omega), gf0 B, gf1 B, s_is_tuple_of B (show 1 ≤ k + 2 by omega) (deep_gd ht)]
  cases t with
  | tup l =>
    have hm := deeps_mem (l := l) (by simpa [D.deep] using ht)
    have hl : l.length ≤ maxLen := hl
    cases e : ((l.length : Int) == p) with
    | false => simp only [exs, ex, ev, evs, rb_ok, rb_exc, ro_ok, ro_exc, ob_nx, ob_rt, ob_exc, oo_some, rs_some, an_nx, an_rt, an_exc, bi_some, bi_some', FD.start, List.map_cons, List.map_nil, List.length_cons, List.length_nil, List.cons_append, List.nil_append, List.replicate, List.getElem?_cons_zero, List.getElem?_cons_succ, List.set_cons_zero, List.set_cons_succ, asg, asgs, asgN, asgNs, T.names, T.namess, wipeE, frzE, Option.map_some, if_true, if_false, reduceCtorEq, Nat.zero_add, Nat.reduceAdd, Nat.reduceSub, Nat.reduceLT, Nat.reduceLeDiff, E.isNon, D.isI, Bool.false_or, Bool.true_or, Bool.not_true, Bool.not_false, Bool.true_and, Bool.false_and, Bool.and_true, Bool.or_false, Bool.or_true, Bool.false_eq_true, o_add, o_sub, c_eqI, c_neI, c_lt, c_le, c_gt, c_ge, c_is, c_isnot, b_lenL, b_lenT, b_int, b_tupL, b_tupT, b_lstL, b_lstT, i_sL, i_sT, i_eL, i_eT, slT, slLs, sl1, isiD, tyD, tupOf, keyB, e]
    | true =>
      simp only [exs, ex, ev, evs, rb_ok, rb_exc, ro_ok, ro_exc, ob_nx, ob_rt, ob_exc, oo_some, rs_some, an_nx, an_rt, an_exc, bi_some, bi_some', FD.start, List.map_cons, List.map_nil, List.length_cons, List.length_nil, List.cons_append, List.nil_append, List.replicate, List.getElem?_cons_zero, List.getElem?_cons_succ, List.set_cons_zero, List.set_cons_succ, asg, asgs, asgN, asgNs, T.names, T.namess, wipeE, frzE, Option.map_some, if_true, if_false, reduceCtorEq, Nat.zero_add, Nat.reduceAdd, Nat.reduceSub, Nat.reduceLT, Nat.reduceLeDiff, E.isNon, D.isI, Bool.false_or, Bool.true_or, Bool.not_true, Bool.not_false, Bool.true_and, Bool.false_and, Bool.and_true, Bool.or_false, Bool.or_true, Bool.false_eq_true, o_add, o_sub, c_eqI, c_neI, c_lt, c_le, c_gt, c_ge, c_is, c_isnot, b_lenL, b_lenT, b_int, b_tupL, b_tupT, b_lstL, b_lstT, i_sL, i_sT, i_eL, i_eT, slT, slLs, sl1, isiD, tyD, tupOf, keyB, e]
      rw [compL_map (f := fun t => .bl (t.wi 0 (d - 1))) fun t hd => by
        simp only [exs, ex, ev, evs, rb_ok, rb_exc, ro_ok, ro_exc, ob_nx, ob_rt, ob_exc, oo_some, rs_some, an_nx, an_rt, an_exc, bi_some, bi_some', FD.start, List.map_cons, List.map_nil, List.length_cons, List.length_nil, List.cons_append, List.nil_append, List.replicate, List.getElem?_cons_zero, List.getElem?_cons_succ, List.set_cons_zero, List.set_cons_succ, asg, asgs, asgN, asgNs, T.names, T.namess, wipeE, frzE, Option.map_some, if_true, if_false, reduceCtorEq, Nat.zero_add, Nat.reduceAdd, Nat.reduceSub, Nat.reduceLT, Nat.reduceLeDiff, E.isNon, D.isI, Bool.false_or, Bool.true_or, Bool.not_true, Bool.not_false, Bool.true_and, Bool.false_and, Bool.and_true, Bool.or_false, Bool.or_true, Bool.false_eq_true, o_add, o_sub, c_eqI, c_neI, c_lt, c_le, c_gt, c_ge, c_is, c_isnot, b_lenL, b_lenT, b_int, b_tupL, b_tupT, b_lstL, b_lstT, i_sL, i_sT, i_eL, i_eT, slT, slLs, sl1, isiD, tyD, gf1 B, s_is_within B (Nat.le_add_left 2 k) (deep_gd (hm t hd))]]
      simp only [exs, ex, ev, evs, rb_ok, rb_exc, ro_ok, ro_exc, ob_nx, ob_rt, ob_exc, oo_some, rs_some, an_nx, an_rt, an_exc, bi_some, bi_some', FD.start, List.map_cons, List.map_nil, List.length_cons, List.length_nil, List.cons_append, List.nil_append, List.replicate, List.getElem?_cons_zero, List.getElem?_cons_succ, List.set_cons_zero, List.set_cons_succ, asg, asgs, asgN, asgNs, T.names, T.namess, wipeE, frzE, Option.map_some, if_true, if_false, reduceCtorEq, Nat.zero_add, Nat.reduceAdd, Nat.reduceSub, Nat.reduceLT, Nat.reduceLeDiff, E.isNon, D.isI, Bool.false_or, Bool.true_or, Bool.not_true, Bool.not_false, Bool.true_and, Bool.false_and, Bool.and_true, Bool.or_false, Bool.or_true, Bool.false_eq_true, o_add, o_sub, c_eqI, c_neI, c_lt, c_le, c_gt, c_ge, c_is, c_isnot, b_lenL, b_lenT, b_int, b_tupL, b_tupT, b_lstL, b_lstT, i_sL, i_sT, i_eL, i_eT, slT, slLs, sl1, isiD, tyD, List.length_map, hl, b_all blsOf_map, all_id]
  | _ => simp only [exs, ex, ev, evs, rb_ok, rb_exc, ro_ok, ro_exc, ob_nx, ob_rt, ob_exc, oo_some, rs_some, an_nx, an_rt, an_exc, bi_some, bi_some', FD.start, List.map_cons, List.map_nil, List.length_cons, List.length_nil, List.cons_append, List.nil_append, List.replicate, List.getElem?_cons_zero, List.getElem?_cons_succ, List.set_cons_zero, List.set_cons_succ, asg, asgs, asgN, asgNs, T.names, T.namess, wipeE, frzE, Option.map_some, if_true, if_false, reduceCtorEq, Nat.zero_add, Nat.reduceAdd, Nat.reduceSub, Nat.reduceLT, Nat.reduceLeDiff, E.isNon, D.isI, Bool.false_or, Bool.true_or, Bool.not_true, Bool.not_false, Bool.true_and, Bool.false_and, Bool.and_true, Bool.or_false, Bool.or_true, Bool.false_eq_true, o_add, o_sub, c_eqI, c_neI, c_lt, c_le, c_gt, c_ge, c_is, c_isnot, b_lenL, b_lenT, b_int, b_tupL, b_tupT, b_lstL, b_lstT, i_sL, i_sT, i_eL, i_eT, slT, slLs, sl1, isiD, tyD, tupOf, keyB]
theorem s_check_key (B : B0 P I) (K : B1 P I) (h : 4 ≤ n)
    {p d m : Int} {t : D} (ht : t.deep = true) (hl : t.items.length ≤ 1000000) : (callsN P w n).call (I.fn 9) [mkD I p d m, t] st = if keyB p d t then .ok .non st else .exc (I.exc 4) t st := by
  obtain ⟨k, rfl⟩ := lev h
  rw [call_at K.h9 rfl]
  simp only [d_check_key, exs, ex, ev, evs, rb_ok, rb_exc, ro_ok, ro_exc, ob_nx, ob_rt, ob_exc, oo_some, rs_some, an_nx, an_rt, an_exc, bi_some, bi_some', FD.start, List.map_cons, List.map_nil, List.length_cons, List.length_nil, List.cons_append, List.nil_append, List.replicate, List.getElem?_cons_zero, List.getElem?_cons_succ, List.set_cons_zero, List.set_cons_succ, asg, asgs, asgN, asgNs, T.names, T.namess, wipeE, frzE, Option.map_some, if_true, if_false, reduceCtorEq, Nat.zero_add, Nat.reduceAdd, Nat.reduceSub, Nat.reduceLT, Nat.reduceLeDiff, E.isNon, D.isI, Bool.false_or, Bool.true_or, Bool.not_true, Bool.not_false, Bool.true_and, Bool.false_and, Bool.and_true, Bool.or_false, Bool.or_true, Bool.false_eq_true, o_add, o_sub, c_eqI, c_neI, c_lt, c_le, c_gt, c_ge, c_is, c_isnot, b_lenL, b_lenT, b_int, b_tupL, b_tupT, b_lstL, b_lstT, i_sL, i_sT, i_eL, i_eT, slT, slLs, sl1, isiD, tyD, s_is_key B (Nat.le_add_left 3 k) ht hl]
  cases keyB p d t <;> simp only [exs, ex, ev, evs, rb_ok, rb_exc, ro_ok, ro_exc, ob_nx, ob_rt, ob_exc, oo_some, rs_some, an_nx, an_rt, an_exc, bi_some, bi_some', FD.start, List.map_cons, List.map_nil, List.length_cons, List.length_nil, List.cons_append, List.nil_append, List.replicate, List.getElem?_cons_zero, List.getElem?_cons_succ, List.set_cons_zero, List.set_cons_succ, asg, asgs, asgN, asgNs, T.names, T.namess, wipeE, frzE, Option.map_some, if_true, if_false, reduceCtorEq, Nat.zero_add, Nat.reduceAdd, Nat.reduceSub, Nat.reduceLT, Nat.reduceLeDiff, E.isNon, D.isI, Bool.false_or, Bool.true_or, Bool.not_true, Bool.not_false, Bool.true_and, Bool.false_and, Bool.and_true, Bool.or_false, Bool.or_true, Bool.false_eq_true, o_add, o_sub, c_eqI, c_neI, c_lt, c_le, c_gt, c_ge, c_is, c_isnot, b_lenL, b_lenT, b_int, b_tupL, b_tupT, b_lstL, b_lstT, i_sL, i_sT, i_eL, i_eT, slT, slLs, sl1, isiD, tyD]
end
end Mini
end
section
set_option Elab.async false
set_option linter.all false
set_option maxRecDepth 100000
set_option maxHeartbeats 2000000
/-! # what the package's functions tell: locks, keys -/
namespace Mini
open PySem
/-! ### plain data of ints -/
theorem plains_int : ∀ l : List Int, D.plains (l.map .int) = true
  | [] => rfl
  | i :: r => by simp only [List.map_cons, D.plains, D.plain, plains_int r, Bool.and_true]
theorem depths_int : ∀ l : List Int, D.depths (l.map .int) = 0
  | [] => rfl
  | i :: r => by simp only [List.map_cons, D.depths, D.depth, depths_int r, Nat.max_self]
theorem plain_tI {l : List Int} : (tI l).plain = true := by simp only [D.plain, plains_int]
theorem depth_tI {l : List Int} : (tI l).depth = 1 := by simp only [D.depth, depths_int]
theorem eqvs_int : ∀ a b : List Int, D.eqvs (a.map .int) (b.map .int) = (a == b)
  | [], [] => rfl
  | [], _ :: _ => rfl
  | _ :: _, [] => rfl
  | i :: a, j :: b => by
    simp only [List.map_cons, D.eqvs, D.eqv, eqvs_int a b, List.cons_beq_cons]
theorem eqv_tI {a b : List Int} : (tI a).eqv (tI b) = (a == b) := by simp only [D.eqv, eqvs_int]
theorem plains_tI : ∀ l : List (List Int), D.plains (l.map tI) = true
  | [] => rfl
  | i :: r => by simp only [List.map_cons, D.plains, plain_tI, plains_tI r, Bool.and_true]
theorem depths_tI : ∀ l : List (List Int), D.depths (l.map tI) ≤ 1
  | [] => by simp [D.depths]
  | i :: r => by
    simp only [List.map_cons, D.depths, depth_tI]
    have := depths_tI r
    omega
theorem plain_tT {l : List (List Int)} : (tTt l).plain = true := by simp only [D.plain, plains_tI]
theorem depth_tT {l : List (List Int)} : (tTt l).depth ≤ 2 := by
  have := depths_tI l
  simp only [D.depth]
  omega
theorem eqvs_tI : ∀ a b : List (List Int), D.eqvs (a.map tI) (b.map tI) = (a == b)
  | [], [] => rfl
  | [], _ :: _ => rfl
  | _ :: _, [] => rfl
  | i :: a, j :: b => by
    simp only [List.map_cons, D.eqvs, eqv_tI, eqvs_tI a b, List.cons_beq_cons]
theorem eqv_tT {a b : List (List Int)} : (tTt a).eqv (tTt b) = (a == b) := by simp only [D.eqv, eqvs_tI]
theorem any_int {x : Int} {l : List Int} : ((l.map D.int).any fun z => z.eqv (.int x)) = l.contains x := by
  rw [List.any_map, List.contains_eq_any_beq]
  congr 1
  funext z
  simp only [Function.comp, D.eqv]
  exact Bool.beq_comm
theorem inD_int {x : Int} {l : List Int} : inD (.int x) (l.map .int) = some (l.contains x) := by
  unfold inD
  rw [show (D.int x).plain = true from rfl, plains_int, depths_int, any_int]
  rfl
theorem c_inT {x : Int} {l : List Int} : opC .isin (.int x) (tI l) = some (l.contains x) := inD_int
theorem c_notinT {x : Int} {l : List Int} : opC .notin (.int x) (tI l) = some (!l.contains x) := by
  show (inD _ _).map _ = _
  rw [inD_int]
  rfl
theorem deep_int {l : List Int} : D.deeps (l.map .int) = true := deeps_of fun d hd => by
  obtain ⟨i, _, rfl⟩ := List.mem_map.mp hd
  rfl
theorem deep_tI {l : List Int} : (tI l).deep = true := by simp only [D.deep, deep_int]
theorem deep_tT {l : List (List Int)} : (tTt l).deep = true := by
  simp only [D.deep]
  exact deeps_of fun d hd => by
    obtain ⟨i, _, rfl⟩ := List.mem_map.mp hd
    exact deep_tI
/-! ### keys, locks as lists of ints -/
def keysL (d : Nat) : Nat → List (List Int)
  | 0 => [[]]
  | k + 1 => (keysL d k).flatMap fun row => (List.range d).map fun (i : Nat) => row ++ [(i : Int)]
abbrev rangeD (d : Nat) : List D := (List.range d).map fun (k : Nat) => .int (k : Int)
theorem rowsD_keys {d : Nat} : ∀ {k : Nat}, rowsD (rangeD d) k = (keysL d k).map tI
  | 0 => rfl
  | k + 1 => by
    simp only [rowsD, rowsD_keys (k := k), keysL, List.map_flatMap, List.flatMap_map, List.map_map]
    congr 1
    funext row
    apply List.map_congr_left
    intro i _
    simp [D.items]
def fitsB (k : List Int) (l : List (List Int)) : Bool := (k.zip l).all fun p => p.2.contains p.1
def prodB (l : List (List Int)) : Int := l.foldl (fun a p => a * (p.length : Int)) 1
def sortU (l : List Int) : List Int := (dedupI l).mergeSort (fun a b => decide (a ≤ b))
def leastB (p : Nat) (ks : List (List Int)) : List (List Int) := (List.range p).map fun i => sortU (ks.map fun k => k.getD i 0)
def doorsB (k : List Int) (ls : List (List (List Int))) : List D := ls.zipIdx.filterMap fun q => if fitsB k q.1 then some (D.int (q.2 : Int)) else none
def locksR (p d m : Int) : D → Option D
  | .lst l => if 8 < (l.length : Int) then some (.int (-1)) else (l.zipIdx.find? fun q => !lockB p d m q.1).map fun q => .int (q.2 : Int)
  | .tup l => if 8 < (l.length : Int) then some (.int (-1)) else (l.zipIdx.find? fun q => !lockB p d m q.1).map fun q => .int (q.2 : Int)
  | _ => some (.int (-1))
section
variable {P : Prog} {I : Ix} {w n : Nat} {st : Store}
open Mini.P
/-- a for that may stop -/
theorem forL_stop {turn : D → Env → Store → Out} (G : Env → Prop) (bad : D → Bool) (o : D → Out) (ho : ∀ d f, (o d).bind f = o d) : ∀ {items : List D} {ρ : Env}, (∀ d ∈ items, ∀ ρ, G ρ → if bad d then turn d ρ st = o d else ∃ ρ', turn d ρ st = .nx ρ' st ∧ G ρ') → G ρ →
    match items.find? bad with
    | some d => forL turn items ρ st = o d
    | none => ∃ ρ', forL turn items ρ st = .nx ρ' st ∧ G ρ'
  | [], ρ, _, h => ⟨ρ, rfl, h⟩
  | d :: r, ρ, k, h => by
    have k0 := k d List.mem_cons_self ρ h
    rw [List.find?_cons]
    cases e : bad d with
    | true =>
      rw [e] at k0
      simp only [if_true] at k0
      show forL turn (d :: r) ρ st = o d
      simp only [forL, k0, ho]
    | false =>
      rw [e] at k0
      simp only [Bool.false_eq_true, if_false] at k0
      obtain ⟨ρ1, e1, h1⟩ := k0
      have := forL_stop (items := r) (ρ := ρ1) G bad o ho (fun d hd => k d (List.mem_cons_of_mem _ hd)) h1
      simp only [forL, e1, Out.bind]
      exact this
theorem s_is_lock (B : B0 P I) (L : B2 P I) (h : 4 ≤ n) {p d m : Int} {t : D} (ht : t.deep = true) (hl : t.items.length ≤ 1000000) (he : ∀ e ∈ t.items, e.items.length ≤ 1000000) :
    (callsN P w n).call (I.fn 10) [mkD I p d m, t] st = .ok (.bl (lockB p d m t)) st := by
  obtain ⟨k, rfl⟩ := lev h
  rw [call_at L.h10 rfl]
  simp only [d_is_lock, exs, ex, ev, evs, rb_ok, rb_exc, ro_ok, ro_exc, ob_nx, ob_rt, ob_exc, oo_some, rs_some, an_nx, an_rt, an_exc, bi_some, bi_some', FD.start, List.map_cons, List.map_nil, List.length_cons, List.length_nil, List.cons_append, List.nil_append, List.replicate, List.getElem?_cons_zero, List.getElem?_cons_succ, List.set_cons_zero, List.set_cons_succ, asg, asgs, asgN, asgNs, T.names, T.namess, wipeE, frzE, Option.map_some, if_true, if_false, reduceCtorEq, Nat.zero_add, Nat.reduceAdd, Nat.reduceSub, Nat.reduceLT, Nat.reduceLeDiff, E.isNon, D.isI, Bool.false_or, Bool.true_or, Bool.not_true, Bool.not_false, Bool.true_and, Bool.false_and, Bool.and_true, Bool.or_false, Bool.or_true, Bool.false_eq_true, o_add, o_sub, c_eqI, c_neI, c_lt, c_le, c_gt, c_ge, c_is, c_isnot, b_lenL, b_lenT, b_int, b_tupL, b_tupT, b_lstL, b_lstT, i_sL, i_sT, i_eL, i_eT, slT, slLs, sl1, isiD, tyD, s_check_make B (show 1 ≤ k + 3 by omega), gf0 B, s_is_tuple_of B (show 1 ≤ k + 3 by omega) (deep_gd ht)]
  cases t with
  | tup l =>
    have hm := deeps_mem (l := l) (by simpa [D.deep] using ht)
    have hl : l.length ≤ maxLen := hl
    cases e : ((l.length : Int) == p) with
    | false => simp only [exs, ex, ev, evs, rb_ok, rb_exc, ro_ok, ro_exc, ob_nx, ob_rt, ob_exc, oo_some, rs_some, an_nx, an_rt, an_exc, bi_some, bi_some', FD.start, List.map_cons, List.map_nil, List.length_cons, List.length_nil, List.cons_append, List.nil_append, List.replicate, List.getElem?_cons_zero, List.getElem?_cons_succ, List.set_cons_zero, List.set_cons_succ, asg, asgs, asgN, asgNs, T.names, T.namess, wipeE, frzE, Option.map_some, if_true, if_false, reduceCtorEq, Nat.zero_add, Nat.reduceAdd, Nat.reduceSub, Nat.reduceLT, Nat.reduceLeDiff, E.isNon, D.isI, Bool.false_or, Bool.true_or, Bool.not_true, Bool.not_false, Bool.true_and, Bool.false_and, Bool.and_true, Bool.or_false, Bool.or_true, Bool.false_eq_true, o_add, o_sub, c_eqI, c_neI, c_lt, c_le, c_gt, c_ge, c_is, c_isnot, b_lenL, b_lenT, b_int, b_tupL, b_tupT, b_lstL, b_lstT, i_sL, i_sT, i_eL, i_eT, slT, slLs, sl1, isiD, tyD, tupOf, lockB, e]
    | true =>
      simp only [exs, ex, ev, evs, rb_ok, rb_exc, ro_ok, ro_exc, ob_nx, ob_rt, ob_exc, oo_some, rs_some, an_nx, an_rt, an_exc, bi_some, bi_some', FD.start, List.map_cons, List.map_nil, List.length_cons, List.length_nil, List.cons_append, List.nil_append, List.replicate, List.getElem?_cons_zero, List.getElem?_cons_succ, List.set_cons_zero, List.set_cons_succ, asg, asgs, asgN, asgNs, T.names, T.namess, wipeE, frzE, Option.map_some, if_true, if_false, reduceCtorEq, Nat.zero_add, Nat.reduceAdd, Nat.reduceSub, Nat.reduceLT, Nat.reduceLeDiff, E.isNon, D.isI, Bool.false_or, Bool.true_or, Bool.not_true, Bool.not_false, Bool.true_and, Bool.false_and, Bool.and_true, Bool.or_false, Bool.or_true, Bool.false_eq_true, o_add, o_sub, c_eqI, c_neI, c_lt, c_le, c_gt, c_ge, c_is, c_isnot, b_lenL, b_lenT, b_int, b_tupL, b_tupT, b_lstL, b_lstT, i_sL, i_sT, i_eL, i_eT, slT, slLs, sl1, isiD, tyD, tupOf, lockB, e]
      rw [compL_map (f := fun t => .bl (setB (d - 1) t && decide ((t.items.length : Int) ≤ m))) fun t hd => by
        simp only [exs, ex, ev, evs, rb_ok, rb_exc, ro_ok, ro_exc, ob_nx, ob_rt, ob_exc, oo_some, rs_some, an_nx, an_rt, an_exc, bi_some, bi_some', FD.start, List.map_cons, List.map_nil, List.length_cons, List.length_nil, List.cons_append, List.nil_append, List.replicate, List.getElem?_cons_zero, List.getElem?_cons_succ, List.set_cons_zero, List.set_cons_succ, asg, asgs, asgN, asgNs, T.names, T.namess, wipeE, frzE, Option.map_some, if_true, if_false, reduceCtorEq, Nat.zero_add, Nat.reduceAdd, Nat.reduceSub, Nat.reduceLT, Nat.reduceLeDiff, E.isNon, D.isI, Bool.false_or, Bool.true_or, Bool.not_true, Bool.not_false, Bool.true_and, Bool.false_and, Bool.and_true, Bool.or_false, Bool.or_true, Bool.false_eq_true, o_add, o_sub, c_eqI, c_neI, c_lt, c_le, c_gt, c_ge, c_is, c_isnot, b_lenL, b_lenT, b_int, b_tupL, b_tupT, b_lstL, b_lstT, i_sL, i_sT, i_eL, i_eT, slT, slLs, sl1, isiD, tyD, gf1 B, gf2 B, s_is_set B L (Nat.le_add_left 3 k) (hm t hd) (he t hd)]
        cases q : setB (d - 1) t with
        | false => simp only [exs, ex, ev, evs, rb_ok, rb_exc, ro_ok, ro_exc, ob_nx, ob_rt, ob_exc, oo_some, rs_some, an_nx, an_rt, an_exc, bi_some, bi_some', FD.start, List.map_cons, List.map_nil, List.length_cons, List.length_nil, List.cons_append, List.nil_append, List.replicate, List.getElem?_cons_zero, List.getElem?_cons_succ, List.set_cons_zero, List.set_cons_succ, asg, asgs, asgN, asgNs, T.names, T.namess, wipeE, frzE, Option.map_some, if_true, if_false, reduceCtorEq, Nat.zero_add, Nat.reduceAdd, Nat.reduceSub, Nat.reduceLT, Nat.reduceLeDiff, E.isNon, D.isI, Bool.false_or, Bool.true_or, Bool.not_true, Bool.not_false, Bool.true_and, Bool.false_and, Bool.and_true, Bool.or_false, Bool.or_true, Bool.false_eq_true, o_add, o_sub, c_eqI, c_neI, c_lt, c_le, c_gt, c_ge, c_is, c_isnot, b_lenL, b_lenT, b_int, b_tupL, b_tupT, b_lstL, b_lstT, i_sL, i_sT, i_eL, i_eT, slT, slLs, sl1, isiD, tyD]
        | true =>
          cases t with
          | tup l' =>
            simp only [exs, ex, ev, evs, rb_ok, rb_exc, ro_ok, ro_exc, ob_nx, ob_rt, ob_exc, oo_some, rs_some, an_nx, an_rt, an_exc, bi_some, bi_some', FD.start, List.map_cons, List.map_nil, List.length_cons, List.length_nil, List.cons_append, List.nil_append, List.replicate, List.getElem?_cons_zero, List.getElem?_cons_succ, List.set_cons_zero, List.set_cons_succ, asg, asgs, asgN, asgNs, T.names, T.namess, wipeE, frzE, Option.map_some, if_true, if_false, reduceCtorEq, Nat.zero_add, Nat.reduceAdd, Nat.reduceSub, Nat.reduceLT, Nat.reduceLeDiff, E.isNon, D.isI, Bool.false_or, Bool.true_or, Bool.not_true, Bool.not_false, Bool.true_and, Bool.false_and, Bool.and_true, Bool.or_false, Bool.or_true, Bool.false_eq_true, o_add, o_sub, c_eqI, c_neI, c_lt, c_le, c_gt, c_ge, c_is, c_isnot, b_lenL, b_lenT, b_int, b_tupL, b_tupT, b_lstL, b_lstT, i_sL, i_sT, i_eL, i_eT, slT, slLs, sl1, isiD, tyD, gf2 B, D.items]
            rfl
          | _ => simp [setB] at q]
      simp only [exs, ex, ev, evs, rb_ok, rb_exc, ro_ok, ro_exc, ob_nx, ob_rt, ob_exc, oo_some, rs_some, an_nx, an_rt, an_exc, bi_some, bi_some', FD.start, List.map_cons, List.map_nil, List.length_cons, List.length_nil, List.cons_append, List.nil_append, List.replicate, List.getElem?_cons_zero, List.getElem?_cons_succ, List.set_cons_zero, List.set_cons_succ, asg, asgs, asgN, asgNs, T.names, T.namess, wipeE, frzE, Option.map_some, if_true, if_false, reduceCtorEq, Nat.zero_add, Nat.reduceAdd, Nat.reduceSub, Nat.reduceLT, Nat.reduceLeDiff, E.isNon, D.isI, Bool.false_or, Bool.true_or, Bool.not_true, Bool.not_false, Bool.true_and, Bool.false_and, Bool.and_true, Bool.or_false, Bool.or_true, Bool.false_eq_true, o_add, o_sub, c_eqI, c_neI, c_lt, c_le, c_gt, c_ge, c_is, c_isnot, b_lenL, b_lenT, b_int, b_tupL, b_tupT, b_lstL, b_lstT, i_sL, i_sT, i_eL, i_eT, slT, slLs, sl1, isiD, tyD, List.length_map, hl, b_all blsOf_map, all_id]
  | _ => simp only [exs, ex, ev, evs, rb_ok, rb_exc, ro_ok, ro_exc, ob_nx, ob_rt, ob_exc, oo_some, rs_some, an_nx, an_rt, an_exc, bi_some, bi_some', FD.start, List.map_cons, List.map_nil, List.length_cons, List.length_nil, List.cons_append, List.nil_append, List.replicate, List.getElem?_cons_zero, List.getElem?_cons_succ, List.set_cons_zero, List.set_cons_succ, asg, asgs, asgN, asgNs, T.names, T.namess, wipeE, frzE, Option.map_some, if_true, if_false, reduceCtorEq, Nat.zero_add, Nat.reduceAdd, Nat.reduceSub, Nat.reduceLT, Nat.reduceLeDiff, E.isNon, D.isI, Bool.false_or, Bool.true_or, Bool.not_true, Bool.not_false, Bool.true_and, Bool.false_and, Bool.and_true, Bool.or_false, Bool.or_true, Bool.false_eq_true, o_add, o_sub, c_eqI, c_neI, c_lt, c_le, c_gt, c_ge, c_is, c_isnot, b_lenL, b_lenT, b_int, b_tupL, b_tupT, b_lstL, b_lstT, i_sL, i_sT, i_eL, i_eT, slT, slLs, sl1, isiD, tyD, tupOf, lockB]
theorem s_check_locks (B : B0 P I) (L : B2 P I) (h : 5 ≤ n) {p d m : Int} {t : D} (ht : t.deep = true) (hl : t.items.length ≤ 1000000) (he : ∀ e ∈ t.items, e.items.length ≤ 1000000 ∧ ∀ e' ∈ e.items, e'.items.length ≤ 1000000) :
    (callsN P w n).call (I.fn 12) [mkD I p d m, t] st = match locksR p d m t with | none => .ok .non st | some v => .exc (I.exc 6) v st := by
  obtain ⟨k, rfl⟩ := lev h
  rw [call_at L.h12 rfl]
  simp only [d_check_locks, exs, ex, ev, evs, rb_ok, rb_exc, ro_ok, ro_exc, ob_nx, ob_rt, ob_exc, oo_some, rs_some, an_nx, an_rt, an_exc, bi_some, bi_some', FD.start, List.map_cons, List.map_nil, List.length_cons, List.length_nil, List.cons_append, List.nil_append, List.replicate, List.getElem?_cons_zero, List.getElem?_cons_succ, List.set_cons_zero, List.set_cons_succ, asg, asgs, asgN, asgNs, T.names, T.namess, wipeE, frzE, Option.map_some, if_true, if_false, reduceCtorEq, Nat.zero_add, Nat.reduceAdd, Nat.reduceSub, Nat.reduceLT, Nat.reduceLeDiff, E.isNon, D.isI, Bool.false_or, Bool.true_or, Bool.not_true, Bool.not_false, Bool.true_and, Bool.false_and, Bool.and_true, Bool.or_false, Bool.or_true, Bool.false_eq_true, o_add, o_sub, c_eqI, c_neI, c_lt, c_le, c_gt, c_ge, c_is, c_isnot, b_lenL, b_lenT, b_int, b_tupL, b_tupT, b_lstL, b_lstT, i_sL, i_sT, i_eL, i_eT, slT, slLs, sl1, isiD, tyD, s_check_make B (show 1 ≤ k + 4 by omega), s_is_row B (show 1 ≤ k + 4 by omega) (deep_gd ht)]
  have loop : ∀ (l : List D) (a b c e : Slot), D.deeps l = true → (∀ e ∈ l, e.items.length ≤ 1000000 ∧ ∀ e' ∈ e.items, e'.items.length ≤ 1000000) →
      match (l.zipIdx.find? fun q => !lockB p d m q.1) with
      | some q => forL (fun d ρ st => Out.ofOpt (asgN (.tup [.nm 2, .nm 3]) d ρ) fun ρ1 => exs P (callsN P w (k + 4)) w [.if_ (.not (.call (I.fn 10) [.var 0, .var 3])) [.rai (I.exc 6) (.var 2)] []] ρ1 st) (l.zipIdx.map fun p => .tup [.int p.2, p.1]) [.val (mkD I p d m), b, c, e] st = .exc (I.exc 6) (.int (q.2 : Int)) st
      | none => ∃ c' e', forL (fun d ρ st => Out.ofOpt (asgN (.tup [.nm 2, .nm 3]) d ρ) fun ρ1 => exs P (callsN P w (k + 4)) w [.if_ (.not (.call (I.fn 10) [.var 0, .var 3])) [.rai (I.exc 6) (.var 2)] []] ρ1 st) (l.zipIdx.map fun p => .tup [.int p.2, p.1]) [.val (mkD I p d m), b, c, e] st = .nx [.val (mkD I p d m), b, c', e'] st := by
    intro l a b c e hd hl
    have key := forL_stop (st := st) (turn := fun d ρ st => Out.ofOpt (asgN (.tup [.nm 2, .nm 3]) d ρ) fun ρ1 => exs P (callsN P w (k + 4)) w [.if_ (.not (.call (I.fn 10) [.var 0, .var 3])) [.rai (I.exc 6) (.var 2)] []] ρ1 st)
      (fun ρ => ∃ c e, ρ = [.val (mkD I p d m), b, c, e]) (fun t => match t with | .tup [_, x] => !lockB p d m x | _ => false) (fun t => match t with | .tup [i, _] => .exc (I.exc 6) i st | _ => .bad) (fun t f => by split <;> rfl) (items := l.zipIdx.map fun p => .tup [.int p.2, p.1]) (ρ := [.val (mkD I p d m), b, c, e]) (fun t ht ρ ⟨c, e, hρ⟩ => by
        subst hρ
        obtain ⟨q, hq, rfl⟩ := List.mem_map.mp ht
        have hq1 : q.1 ∈ l := (List.mem_zipIdx' hq).2 ▸ List.getElem_mem _
        have z := s_is_lock (w := w) (st := st) B L (Nat.le_add_left 4 k) (p := p) (d := d) (m := m) (deeps_mem hd q.1 hq1) (hl q.1 hq1).1 (hl q.1 hq1).2
        simp only [exs, ex, ev, evs, rb_ok, rb_exc, ro_ok, ro_exc, ob_nx, ob_rt, ob_exc, oo_some, rs_some, an_nx, an_rt, an_exc, bi_some, bi_some', FD.start, List.map_cons, List.map_nil, List.length_cons, List.length_nil, List.cons_append, List.nil_append, List.replicate, List.getElem?_cons_zero, List.getElem?_cons_succ, List.set_cons_zero, List.set_cons_succ, asg, asgs, asgN, asgNs, T.names, T.namess, wipeE, frzE, Option.map_some, if_true, if_false, reduceCtorEq, Nat.zero_add, Nat.reduceAdd, Nat.reduceSub, Nat.reduceLT, Nat.reduceLeDiff, E.isNon, D.isI, Bool.false_or, Bool.true_or, Bool.not_true, Bool.not_false, Bool.true_and, Bool.false_and, Bool.and_true, Bool.or_false, Bool.or_true, Bool.false_eq_true, o_add, o_sub, c_eqI, c_neI, c_lt, c_le, c_gt, c_ge, c_is, c_isnot, b_lenL, b_lenT, b_int, b_tupL, b_tupT, b_lstL, b_lstT, i_sL, i_sT, i_eL, i_eT, slT, slLs, sl1, isiD, tyD, z]
        cases lockB p d m q.1 <;> simp [exs, ex, ev, evs, rb_ok, rb_exc, ro_ok, ro_exc, ob_nx, ob_rt, ob_exc, oo_some, rs_some, an_nx, an_rt, an_exc, bi_some, bi_some', FD.start, List.map_cons, List.map_nil, List.length_cons, List.length_nil, List.cons_append, List.nil_append, List.replicate, List.getElem?_cons_zero, List.getElem?_cons_succ, List.set_cons_zero, List.set_cons_succ, asg, asgs, asgN, asgNs, T.names, T.namess, wipeE, frzE, Option.map_some, if_true, if_false, reduceCtorEq, Nat.zero_add, Nat.reduceAdd, Nat.reduceSub, Nat.reduceLT, Nat.reduceLeDiff, E.isNon, D.isI, Bool.false_or, Bool.true_or, Bool.not_true, Bool.not_false, Bool.true_and, Bool.false_and, Bool.and_true, Bool.or_false, Bool.or_true, Bool.false_eq_true, o_add, o_sub, c_eqI, c_neI, c_lt, c_le, c_gt, c_ge, c_is, c_isnot, b_lenL, b_lenT, b_int, b_tupL, b_tupT, b_lstL, b_lstT, i_sL, i_sT, i_eL, i_eT, slT, slLs, sl1, isiD, tyD]) ⟨_, _, rfl⟩
    rw [List.find?_map] at key
    simp only [Function.comp_def] at key
    cases e1 : (l.zipIdx.find? fun q => !lockB p d m q.1) with
    | none =>
      simp only [e1, Option.map_none] at key
      obtain ⟨ρ', h1, c', e', rfl⟩ := key
      exact ⟨c', e', h1⟩
    | some q =>
      simp only [e1, Option.map_some] at key
      exact key
  cases t with
  | lst l =>
    simp only [exs, ex, ev, evs, rb_ok, rb_exc, ro_ok, ro_exc, ob_nx, ob_rt, ob_exc, oo_some, rs_some, an_nx, an_rt, an_exc, bi_some, bi_some', FD.start, List.map_cons, List.map_nil, List.length_cons, List.length_nil, List.cons_append, List.nil_append, List.replicate, List.getElem?_cons_zero, List.getElem?_cons_succ, List.set_cons_zero, List.set_cons_succ, asg, asgs, asgN, asgNs, T.names, T.namess, wipeE, frzE, Option.map_some, if_true, if_false, reduceCtorEq, Nat.zero_add, Nat.reduceAdd, Nat.reduceSub, Nat.reduceLT, Nat.reduceLeDiff, E.isNon, D.isI, Bool.false_or, Bool.true_or, Bool.not_true, Bool.not_false, Bool.true_and, Bool.false_and, Bool.and_true, Bool.or_false, Bool.or_true, Bool.false_eq_true, o_add, o_sub, c_eqI, c_neI, c_lt, c_le, c_gt, c_ge, c_is, c_isnot, b_lenL, b_lenT, b_int, b_tupL, b_tupT, b_lstL, b_lstT, i_sL, i_sT, i_eL, i_eT, slT, slLs, sl1, isiD, tyD, locksR, c_gt]
    by_cases c : 8 < (l.length : Int)
    · simp only [c, decide_true, exs, ex, ev, evs, rb_ok, rb_exc, ro_ok, ro_exc, ob_nx, ob_rt, ob_exc, oo_some, rs_some, an_nx, an_rt, an_exc, bi_some, bi_some', FD.start, List.map_cons, List.map_nil, List.length_cons, List.length_nil, List.cons_append, List.nil_append, List.replicate, List.getElem?_cons_zero, List.getElem?_cons_succ, List.set_cons_zero, List.set_cons_succ, asg, asgs, asgN, asgNs, T.names, T.namess, wipeE, frzE, Option.map_some, if_true, if_false, reduceCtorEq, Nat.zero_add, Nat.reduceAdd, Nat.reduceSub, Nat.reduceLT, Nat.reduceLeDiff, E.isNon, D.isI, Bool.false_or, Bool.true_or, Bool.not_true, Bool.not_false, Bool.true_and, Bool.false_and, Bool.and_true, Bool.or_false, Bool.or_true, Bool.false_eq_true, o_add, o_sub, c_eqI, c_neI, c_lt, c_le, c_gt, c_ge, c_is, c_isnot, b_lenL, b_lenT, b_int, b_tupL, b_tupT, b_lstL, b_lstT, i_sL, i_sT, i_eL, i_eT, slT, slLs, sl1, isiD, tyD, ev]
    · simp only [c, decide_false, exs, ex, ev, evs, rb_ok, rb_exc, ro_ok, ro_exc, ob_nx, ob_rt, ob_exc, oo_some, rs_some, an_nx, an_rt, an_exc, bi_some, bi_some', FD.start, List.map_cons, List.map_nil, List.length_cons, List.length_nil, List.cons_append, List.nil_append, List.replicate, List.getElem?_cons_zero, List.getElem?_cons_succ, List.set_cons_zero, List.set_cons_succ, asg, asgs, asgN, asgNs, T.names, T.namess, wipeE, frzE, Option.map_some, if_true, if_false, reduceCtorEq, Nat.zero_add, Nat.reduceAdd, Nat.reduceSub, Nat.reduceLT, Nat.reduceLeDiff, E.isNon, D.isI, Bool.false_or, Bool.true_or, Bool.not_true, Bool.not_false, Bool.true_and, Bool.false_and, Bool.and_true, Bool.or_false, Bool.or_true, Bool.false_eq_true, o_add, o_sub, c_eqI, c_neI, c_lt, c_le, c_gt, c_ge, c_is, c_isnot, b_lenL, b_lenT, b_int, b_tupL, b_tupT, b_lstL, b_lstT, i_sL, i_sT, i_eL, i_eT, slT, slLs, sl1, isiD, tyD]
      have key := loop l .no (.val (.lst l)) .no .no (by simpa [D.deep] using ht) he
      cases e1 : (l.zipIdx.find? fun q => !lockB p d m q.1) with
      | none =>
        simp only [e1] at key
        obtain ⟨c', e', h1⟩ := key
        simp only [exs, ex, ev, evs, rb_ok, rb_exc, ro_ok, ro_exc, ob_nx, ob_rt, ob_exc, oo_some, rs_some, an_nx, an_rt, an_exc, bi_some, bi_some', FD.start, List.map_cons, List.map_nil, List.length_cons, List.length_nil, List.cons_append, List.nil_append, List.replicate, List.getElem?_cons_zero, List.getElem?_cons_succ, List.set_cons_zero, List.set_cons_succ, asg, asgs, asgN, asgNs, T.names, T.namess, wipeE, frzE, Option.map_some, if_true, if_false, reduceCtorEq, Nat.zero_add, Nat.reduceAdd, Nat.reduceSub, Nat.reduceLT, Nat.reduceLeDiff, E.isNon, D.isI, Bool.false_or, Bool.true_or, Bool.not_true, Bool.not_false, Bool.true_and, Bool.false_and, Bool.and_true, Bool.or_false, Bool.or_true, Bool.false_eq_true, o_add, o_sub, c_eqI, c_neI, c_lt, c_le, c_gt, c_ge, c_is, c_isnot, b_lenL, b_lenT, b_int, b_tupL, b_tupT, b_lstL, b_lstT, i_sL, i_sT, i_eL, i_eT, slT, slLs, sl1, isiD, tyD] at h1 ⊢
        rw [h1]
        simp only [exs, ex, ev, evs, rb_ok, rb_exc, ro_ok, ro_exc, ob_nx, ob_rt, ob_exc, oo_some, rs_some, an_nx, an_rt, an_exc, bi_some, bi_some', FD.start, List.map_cons, List.map_nil, List.length_cons, List.length_nil, List.cons_append, List.nil_append, List.replicate, List.getElem?_cons_zero, List.getElem?_cons_succ, List.set_cons_zero, List.set_cons_succ, asg, asgs, asgN, asgNs, T.names, T.namess, wipeE, frzE, Option.map_some, if_true, if_false, reduceCtorEq, Nat.zero_add, Nat.reduceAdd, Nat.reduceSub, Nat.reduceLT, Nat.reduceLeDiff, E.isNon, D.isI, Bool.false_or, Bool.true_or, Bool.not_true, Bool.not_false, Bool.true_and, Bool.false_and, Bool.and_true, Bool.or_false, Bool.or_true, Bool.false_eq_true, o_add, o_sub, c_eqI, c_neI, c_lt, c_le, c_gt, c_ge, c_is, c_isnot, b_lenL, b_lenT, b_int, b_tupL, b_tupT, b_lstL, b_lstT, i_sL, i_sT, i_eL, i_eT, slT, slLs, sl1, isiD, tyD, Option.map_none]
      | some q =>
        simp only [e1] at key
        simp only [exs, ex, ev, evs, rb_ok, rb_exc, ro_ok, ro_exc, ob_nx, ob_rt, ob_exc, oo_some, rs_some, an_nx, an_rt, an_exc, bi_some, bi_some', FD.start, List.map_cons, List.map_nil, List.length_cons, List.length_nil, List.cons_append, List.nil_append, List.replicate, List.getElem?_cons_zero, List.getElem?_cons_succ, List.set_cons_zero, List.set_cons_succ, asg, asgs, asgN, asgNs, T.names, T.namess, wipeE, frzE, Option.map_some, if_true, if_false, reduceCtorEq, Nat.zero_add, Nat.reduceAdd, Nat.reduceSub, Nat.reduceLT, Nat.reduceLeDiff, E.isNon, D.isI, Bool.false_or, Bool.true_or, Bool.not_true, Bool.not_false, Bool.true_and, Bool.false_and, Bool.and_true, Bool.or_false, Bool.or_true, Bool.false_eq_true, o_add, o_sub, c_eqI, c_neI, c_lt, c_le, c_gt, c_ge, c_is, c_isnot, b_lenL, b_lenT, b_int, b_tupL, b_tupT, b_lstL, b_lstT, i_sL, i_sT, i_eL, i_eT, slT, slLs, sl1, isiD, tyD] at key ⊢
        rw [key]
        simp only [exs, ex, ev, evs, rb_ok, rb_exc, ro_ok, ro_exc, ob_nx, ob_rt, ob_exc, oo_some, rs_some, an_nx, an_rt, an_exc, bi_some, bi_some', FD.start, List.map_cons, List.map_nil, List.length_cons, List.length_nil, List.cons_append, List.nil_append, List.replicate, List.getElem?_cons_zero, List.getElem?_cons_succ, List.set_cons_zero, List.set_cons_succ, asg, asgs, asgN, asgNs, T.names, T.namess, wipeE, frzE, Option.map_some, if_true, if_false, reduceCtorEq, Nat.zero_add, Nat.reduceAdd, Nat.reduceSub, Nat.reduceLT, Nat.reduceLeDiff, E.isNon, D.isI, Bool.false_or, Bool.true_or, Bool.not_true, Bool.not_false, Bool.true_and, Bool.false_and, Bool.and_true, Bool.or_false, Bool.or_true, Bool.false_eq_true, o_add, o_sub, c_eqI, c_neI, c_lt, c_le, c_gt, c_ge, c_is, c_isnot, b_lenL, b_lenT, b_int, b_tupL, b_tupT, b_lstL, b_lstT, i_sL, i_sT, i_eL, i_eT, slT, slLs, sl1, isiD, tyD]
  | tup l =>
    simp only [exs, ex, ev, evs, rb_ok, rb_exc, ro_ok, ro_exc, ob_nx, ob_rt, ob_exc, oo_some, rs_some, an_nx, an_rt, an_exc, bi_some, bi_some', FD.start, List.map_cons, List.map_nil, List.length_cons, List.length_nil, List.cons_append, List.nil_append, List.replicate, List.getElem?_cons_zero, List.getElem?_cons_succ, List.set_cons_zero, List.set_cons_succ, asg, asgs, asgN, asgNs, T.names, T.namess, wipeE, frzE, Option.map_some, if_true, if_false, reduceCtorEq, Nat.zero_add, Nat.reduceAdd, Nat.reduceSub, Nat.reduceLT, Nat.reduceLeDiff, E.isNon, D.isI, Bool.false_or, Bool.true_or, Bool.not_true, Bool.not_false, Bool.true_and, Bool.false_and, Bool.and_true, Bool.or_false, Bool.or_true, Bool.false_eq_true, o_add, o_sub, c_eqI, c_neI, c_lt, c_le, c_gt, c_ge, c_is, c_isnot, b_lenL, b_lenT, b_int, b_tupL, b_tupT, b_lstL, b_lstT, i_sL, i_sT, i_eL, i_eT, slT, slLs, sl1, isiD, tyD, locksR, c_gt]
    by_cases c : 8 < (l.length : Int)
    · simp only [c, decide_true, exs, ex, ev, evs, rb_ok, rb_exc, ro_ok, ro_exc, ob_nx, ob_rt, ob_exc, oo_some, rs_some, an_nx, an_rt, an_exc, bi_some, bi_some', FD.start, List.map_cons, List.map_nil, List.length_cons, List.length_nil, List.cons_append, List.nil_append, List.replicate, List.getElem?_cons_zero, List.getElem?_cons_succ, List.set_cons_zero, List.set_cons_succ, asg, asgs, asgN, asgNs, T.names, T.namess, wipeE, frzE, Option.map_some, if_true, if_false, reduceCtorEq, Nat.zero_add, Nat.reduceAdd, Nat.reduceSub, Nat.reduceLT, Nat.reduceLeDiff, E.isNon, D.isI, Bool.false_or, Bool.true_or, Bool.not_true, Bool.not_false, Bool.true_and, Bool.false_and, Bool.and_true, Bool.or_false, Bool.or_true, Bool.false_eq_true, o_add, o_sub, c_eqI, c_neI, c_lt, c_le, c_gt, c_ge, c_is, c_isnot, b_lenL, b_lenT, b_int, b_tupL, b_tupT, b_lstL, b_lstT, i_sL, i_sT, i_eL, i_eT, slT, slLs, sl1, isiD, tyD, ev]
    · simp only [c, decide_false, exs, ex, ev, evs, rb_ok, rb_exc, ro_ok, ro_exc, ob_nx, ob_rt, ob_exc, oo_some, rs_some, an_nx, an_rt, an_exc, bi_some, bi_some', FD.start, List.map_cons, List.map_nil, List.length_cons, List.length_nil, List.cons_append, List.nil_append, List.replicate, List.getElem?_cons_zero, List.getElem?_cons_succ, List.set_cons_zero, List.set_cons_succ, asg, asgs, asgN, asgNs, T.names, T.namess, wipeE, frzE, Option.map_some, if_true, if_false, reduceCtorEq, Nat.zero_add, Nat.reduceAdd, Nat.reduceSub, Nat.reduceLT, Nat.reduceLeDiff, E.isNon, D.isI, Bool.false_or, Bool.true_or, Bool.not_true, Bool.not_false, Bool.true_and, Bool.false_and, Bool.and_true, Bool.or_false, Bool.or_true, Bool.false_eq_true, o_add, o_sub, c_eqI, c_neI, c_lt, c_le, c_gt, c_ge, c_is, c_isnot, b_lenL, b_lenT, b_int, b_tupL, b_tupT, b_lstL, b_lstT, i_sL, i_sT, i_eL, i_eT, slT, slLs, sl1, isiD, tyD]
      have key := loop l .no (.val (.tup l)) .no .no (by simpa [D.deep] using ht) he
      cases e1 : (l.zipIdx.find? fun q => !lockB p d m q.1) with
      | none =>
        simp only [e1] at key
        obtain ⟨c', e', h1⟩ := key
        simp only [exs, ex, ev, evs, rb_ok, rb_exc, ro_ok, ro_exc, ob_nx, ob_rt, ob_exc, oo_some, rs_some, an_nx, an_rt, an_exc, bi_some, bi_some', FD.start, List.map_cons, List.map_nil, List.length_cons, List.length_nil, List.cons_append, List.nil_append, List.replicate, List.getElem?_cons_zero, List.getElem?_cons_succ, List.set_cons_zero, List.set_cons_succ, asg, asgs, asgN, asgNs, T.names, T.namess, wipeE, frzE, Option.map_some, if_true, if_false, reduceCtorEq, Nat.zero_add, Nat.reduceAdd, Nat.reduceSub, Nat.reduceLT, Nat.reduceLeDiff, E.isNon, D.isI, Bool.false_or, Bool.true_or, Bool.not_true, Bool.not_false, Bool.true_and, Bool.false_and, Bool.and_true, Bool.or_false, Bool.or_true, Bool.false_eq_true, o_add, o_sub, c_eqI, c_neI, c_lt, c_le, c_gt, c_ge, c_is, c_isnot, b_lenL, b_lenT, b_int, b_tupL, b_tupT, b_lstL, b_lstT, i_sL, i_sT, i_eL, i_eT, slT, slLs, sl1, isiD, tyD] at h1 ⊢
        rw [h1]
        simp only [exs, ex, ev, evs, rb_ok, rb_exc, ro_ok, ro_exc, ob_nx, ob_rt, ob_exc, oo_some, rs_some, an_nx, an_rt, an_exc, bi_some, bi_some', FD.start, List.map_cons, List.map_nil, List.length_cons, List.length_nil, List.cons_append, List.nil_append, List.replicate, List.getElem?_cons_zero, List.getElem?_cons_succ, List.set_cons_zero, List.set_cons_succ, asg, asgs, asgN, asgNs, T.names, T.namess, wipeE, frzE, Option.map_some, if_true, if_false, reduceCtorEq, Nat.zero_add, Nat.reduceAdd, Nat.reduceSub, Nat.reduceLT, Nat.reduceLeDiff, E.isNon, D.isI, Bool.false_or, Bool.true_or, Bool.not_true, Bool.not_false, Bool.true_and, Bool.false_and, Bool.and_true, Bool.or_false, Bool.or_true, Bool.false_eq_true, o_add, o_sub, c_eqI, c_neI, c_lt, c_le, c_gt, c_ge, c_is, c_isnot, b_lenL, b_lenT, b_int, b_tupL, b_tupT, b_lstL, b_lstT, i_sL, i_sT, i_eL, i_eT, slT, slLs, sl1, isiD, tyD, Option.map_none]
      | some q =>
        simp only [e1] at key
        simp only [exs, ex, ev, evs, rb_ok, rb_exc, ro_ok, ro_exc, ob_nx, ob_rt, ob_exc, oo_some, rs_some, an_nx, an_rt, an_exc, bi_some, bi_some', FD.start, List.map_cons, List.map_nil, List.length_cons, List.length_nil, List.cons_append, List.nil_append, List.replicate, List.getElem?_cons_zero, List.getElem?_cons_succ, List.set_cons_zero, List.set_cons_succ, asg, asgs, asgN, asgNs, T.names, T.namess, wipeE, frzE, Option.map_some, if_true, if_false, reduceCtorEq, Nat.zero_add, Nat.reduceAdd, Nat.reduceSub, Nat.reduceLT, Nat.reduceLeDiff, E.isNon, D.isI, Bool.false_or, Bool.true_or, Bool.not_true, Bool.not_false, Bool.true_and, Bool.false_and, Bool.and_true, Bool.or_false, Bool.or_true, Bool.false_eq_true, o_add, o_sub, c_eqI, c_neI, c_lt, c_le, c_gt, c_ge, c_is, c_isnot, b_lenL, b_lenT, b_int, b_tupL, b_tupT, b_lstL, b_lstT, i_sL, i_sT, i_eL, i_eT, slT, slLs, sl1, isiD, tyD] at key ⊢
        rw [key]
        simp only [exs, ex, ev, evs, rb_ok, rb_exc, ro_ok, ro_exc, ob_nx, ob_rt, ob_exc, oo_some, rs_some, an_nx, an_rt, an_exc, bi_some, bi_some', FD.start, List.map_cons, List.map_nil, List.length_cons, List.length_nil, List.cons_append, List.nil_append, List.replicate, List.getElem?_cons_zero, List.getElem?_cons_succ, List.set_cons_zero, List.set_cons_succ, asg, asgs, asgN, asgNs, T.names, T.namess, wipeE, frzE, Option.map_some, if_true, if_false, reduceCtorEq, Nat.zero_add, Nat.reduceAdd, Nat.reduceSub, Nat.reduceLT, Nat.reduceLeDiff, E.isNon, D.isI, Bool.false_or, Bool.true_or, Bool.not_true, Bool.not_false, Bool.true_and, Bool.false_and, Bool.and_true, Bool.or_false, Bool.or_true, Bool.false_eq_true, o_add, o_sub, c_eqI, c_neI, c_lt, c_le, c_gt, c_ge, c_is, c_isnot, b_lenL, b_lenT, b_int, b_tupL, b_tupT, b_lstL, b_lstT, i_sL, i_sT, i_eL, i_eT, slT, slLs, sl1, isiD, tyD]
  | _ => simp only [exs, ex, ev, evs, rb_ok, rb_exc, ro_ok, ro_exc, ob_nx, ob_rt, ob_exc, oo_some, rs_some, an_nx, an_rt, an_exc, bi_some, bi_some', FD.start, List.map_cons, List.map_nil, List.length_cons, List.length_nil, List.cons_append, List.nil_append, List.replicate, List.getElem?_cons_zero, List.getElem?_cons_succ, List.set_cons_zero, List.set_cons_succ, asg, asgs, asgN, asgNs, T.names, T.namess, wipeE, frzE, Option.map_some, if_true, if_false, reduceCtorEq, Nat.zero_add, Nat.reduceAdd, Nat.reduceSub, Nat.reduceLT, Nat.reduceLeDiff, E.isNon, D.isI, Bool.false_or, Bool.true_or, Bool.not_true, Bool.not_false, Bool.true_and, Bool.false_and, Bool.and_true, Bool.or_false, Bool.or_true, Bool.false_eq_true, o_add, o_sub, c_eqI, c_neI, c_lt, c_le, c_gt, c_ge, c_is, c_isnot, b_lenL, b_lenT, b_int, b_tupL, b_tupT, b_lstL, b_lstT, i_sL, i_sT, i_eL, i_eT, slT, slLs, sl1, isiD, tyD, locksR]
theorem s_all_keys (B : B0 P I) (L : B2 P I) (h : 2 ≤ n) {p d : Nat} {m : Int} (hd : d ≤ 10) (hp : p ≤ 10) (hb : ∀ k, k ≤ p → (keysL d k).length ≤ 1000000) :
    (callsN P w n).call (I.fn 13) [mkD I p d m] st = .ok (.lst ((keysL d p).map tI)) st := by
  obtain ⟨k, rfl⟩ := lev h
  rw [call_at L.h13 rfl]
  simp only [d_all_keys, exs, ex, ev, evs, rb_ok, rb_exc, ro_ok, ro_exc, ob_nx, ob_rt, ob_exc, oo_some, rs_some, an_nx, an_rt, an_exc, bi_some, bi_some', FD.start, List.map_cons, List.map_nil, List.length_cons, List.length_nil, List.cons_append, List.nil_append, List.replicate, List.getElem?_cons_zero, List.getElem?_cons_succ, List.set_cons_zero, List.set_cons_succ, asg, asgs, asgN, asgNs, T.names, T.namess, wipeE, frzE, Option.map_some, if_true, if_false, reduceCtorEq, Nat.zero_add, Nat.reduceAdd, Nat.reduceSub, Nat.reduceLT, Nat.reduceLeDiff, E.isNon, D.isI, Bool.false_or, Bool.true_or, Bool.not_true, Bool.not_false, Bool.true_and, Bool.false_and, Bool.and_true, Bool.or_false, Bool.or_true, Bool.false_eq_true, o_add, o_sub, c_eqI, c_neI, c_lt, c_le, c_gt, c_ge, c_is, c_isnot, b_lenL, b_lenT, b_int, b_tupL, b_tupT, b_lstL, b_lstT, i_sL, i_sT, i_eL, i_eT, slT, slLs, sl1, isiD, tyD, s_check_make B (show 1 ≤ k + 1 by omega), gf0 B, gf1 B, b_lrange (show (d : Int) ≤ 1000000 by omega) (show -1000000 ≤ (d : Int) by omega), Int.toNat_natCast]
  rw [s_rows_of L (Nat.le_add_left 1 k) (by omega) (by omega) (by simp; omega) (fun j hj => by rw [rowsD_keys, List.length_map]; exact hb j (by simpa using hj))]
  simp only [exs, ex, ev, evs, rb_ok, rb_exc, ro_ok, ro_exc, ob_nx, ob_rt, ob_exc, oo_some, rs_some, an_nx, an_rt, an_exc, bi_some, bi_some', FD.start, List.map_cons, List.map_nil, List.length_cons, List.length_nil, List.cons_append, List.nil_append, List.replicate, List.getElem?_cons_zero, List.getElem?_cons_succ, List.set_cons_zero, List.set_cons_succ, asg, asgs, asgN, asgNs, T.names, T.namess, wipeE, frzE, Option.map_some, if_true, if_false, reduceCtorEq, Nat.zero_add, Nat.reduceAdd, Nat.reduceSub, Nat.reduceLT, Nat.reduceLeDiff, E.isNon, D.isI, Bool.false_or, Bool.true_or, Bool.not_true, Bool.not_false, Bool.true_and, Bool.false_and, Bool.and_true, Bool.or_false, Bool.or_true, Bool.false_eq_true, o_add, o_sub, c_eqI, c_neI, c_lt, c_le, c_gt, c_ge, c_is, c_isnot, b_lenL, b_lenT, b_int, b_tupL, b_tupT, b_lstL, b_lstT, i_sL, i_sT, i_eL, i_eT, slT, slLs, sl1, isiD, tyD, Int.toNat_natCast, rowsD_keys]
theorem s_fits (K : B1 P I) (h : 1 ≤ n) {k : List Int} {l : List (List Int)} (hk : k.length ≤ 1000000) : (callsN P w n).call (I.fn 14) [tI k, tTt l] st = .ok (.bl (fitsB k l)) st := by
  obtain ⟨j, rfl⟩ := lev h
  rw [call_at K.h14 rfl]
  simp only [d_fits, exs, ex, ev, evs, rb_ok, rb_exc, ro_ok, ro_exc, ob_nx, ob_rt, ob_exc, oo_some, rs_some, an_nx, an_rt, an_exc, bi_some, bi_some', FD.start, List.map_cons, List.map_nil, List.length_cons, List.length_nil, List.cons_append, List.nil_append, List.replicate, List.getElem?_cons_zero, List.getElem?_cons_succ, List.set_cons_zero, List.set_cons_succ, asg, asgs, asgN, asgNs, T.names, T.namess, wipeE, frzE, Option.map_some, if_true, if_false, reduceCtorEq, Nat.zero_add, Nat.reduceAdd, Nat.reduceSub, Nat.reduceLT, Nat.reduceLeDiff, E.isNon, D.isI, Bool.false_or, Bool.true_or, Bool.not_true, Bool.not_false, Bool.true_and, Bool.false_and, Bool.and_true, Bool.or_false, Bool.or_true, Bool.false_eq_true, o_add, o_sub, c_eqI, c_neI, c_lt, c_le, c_gt, c_ge, c_is, c_isnot, b_lenL, b_lenT, b_int, b_tupL, b_tupT, b_lstL, b_lstT, i_sL, i_sT, i_eL, i_eT, slT, slLs, sl1, isiD, tyD, i_zp (a := tI k) (b := tTt l) rfl rfl]
  have e : ((k.map D.int).zip (l.map tI)).map (fun p => D.tup [p.1, p.2]) = (k.zip l).map fun p => .tup [.int p.1, tI p.2] := by
    rw [List.zip_map, List.map_map]
    rfl
  rw [e, compL_map (f := fun t => match t with | .tup [.int x, .tup y] => .bl (y.any fun z => z.eqv (.int x)) | _ => .non) fun t ht => by
    obtain ⟨q, hq, rfl⟩ := List.mem_map.mp ht
    simp only [exs, ex, ev, evs, rb_ok, rb_exc, ro_ok, ro_exc, ob_nx, ob_rt, ob_exc, oo_some, rs_some, an_nx, an_rt, an_exc, bi_some, bi_some', FD.start, List.map_cons, List.map_nil, List.length_cons, List.length_nil, List.cons_append, List.nil_append, List.replicate, List.getElem?_cons_zero, List.getElem?_cons_succ, List.set_cons_zero, List.set_cons_succ, asg, asgs, asgN, asgNs, T.names, T.namess, wipeE, frzE, Option.map_some, if_true, if_false, reduceCtorEq, Nat.zero_add, Nat.reduceAdd, Nat.reduceSub, Nat.reduceLT, Nat.reduceLeDiff, E.isNon, D.isI, Bool.false_or, Bool.true_or, Bool.not_true, Bool.not_false, Bool.true_and, Bool.false_and, Bool.and_true, Bool.or_false, Bool.or_true, Bool.false_eq_true, o_add, o_sub, c_eqI, c_neI, c_lt, c_le, c_gt, c_ge, c_is, c_isnot, b_lenL, b_lenT, b_int, b_tupL, b_tupT, b_lstL, b_lstT, i_sL, i_sT, i_eL, i_eT, slT, slLs, sl1, isiD, tyD, c_inT, any_int]]
  rw [List.map_map]
  have hz : (k.zip l).length ≤ maxLen := by
    rw [List.length_zip]
    exact Nat.le_trans (Nat.min_le_left _ _) hk
  simp only [exs, ex, ev, evs, rb_ok, rb_exc, ro_ok, ro_exc, ob_nx, ob_rt, ob_exc, oo_some, rs_some, an_nx, an_rt, an_exc, bi_some, bi_some', FD.start, List.map_cons, List.map_nil, List.length_cons, List.length_nil, List.cons_append, List.nil_append, List.replicate, List.getElem?_cons_zero, List.getElem?_cons_succ, List.set_cons_zero, List.set_cons_succ, asg, asgs, asgN, asgNs, T.names, T.namess, wipeE, frzE, Option.map_some, if_true, if_false, reduceCtorEq, Nat.zero_add, Nat.reduceAdd, Nat.reduceSub, Nat.reduceLT, Nat.reduceLeDiff, E.isNon, D.isI, Bool.false_or, Bool.true_or, Bool.not_true, Bool.not_false, Bool.true_and, Bool.false_and, Bool.and_true, Bool.or_false, Bool.or_true, Bool.false_eq_true, o_add, o_sub, c_eqI, c_neI, c_lt, c_le, c_gt, c_ge, c_is, c_isnot, b_lenL, b_lenT, b_int, b_tupL, b_tupT, b_lstL, b_lstT, i_sL, i_sT, i_eL, i_eT, slT, slLs, sl1, isiD, tyD, List.length_map, hz, Function.comp_def, any_int, b_all blsOf_map, all_id, fitsB]
end
end Mini
end
section
set_option Elab.async false
set_option linter.all false
set_option maxRecDepth 100000
set_option maxHeartbeats 2000000
/-! # what the package's functions tell: doors, keys counted -/
namespace Mini
open PySem Mini.P
structure B3 (P : Prog) (I : Ix) : Prop where
  h11 : P.defs (I.fn 11) = some (d_check_lock I)
  h17 : P.defs (I.fn 17) = some (d_count_keys I)
/-- a good key, a good lock -/
def gKey (p d : Int) (k : List Int) : Prop := keyB p d (tI k) = true ∧ k.length ≤ 1000000
def gLock (p d m : Int) (l : List (List Int)) : Prop := lockB p d m (tTt l) = true ∧ l.length ≤ 1000000 ∧ ∀ e ∈ l, e.length ≤ 1000000
section
variable {P : Prog} {I : Ix} {w n : Nat} {st : Store}
theorem x_check_lock (B : B0 P I) (L : B2 P I) (K : B3 P I) (h : 5 ≤ n) {p d m : Int} {t : D} (ht : t.deep = true) (hl : t.items.length ≤ 1000000) (he : ∀ e ∈ t.items, e.items.length ≤ 1000000) :
    (callsN P w n).call (I.fn 11) [mkD I p d m, t] st = if lockB p d m t then .ok .non st else .exc (I.exc 5) t st := by
  obtain ⟨k, rfl⟩ := lev h
  rw [call_at K.h11 rfl]
  simp only [d_check_lock, exs, ex, ev, evs, rb_ok, rb_exc, ro_ok, ro_exc, ob_nx, ob_rt, ob_exc, oo_some, rs_some, an_nx, an_rt, an_exc, bi_some, bi_some', FD.start, List.map_cons, List.map_nil, List.length_cons, List.length_nil, List.cons_append, List.nil_append, List.replicate, List.getElem?_cons_zero, List.getElem?_cons_succ, List.set_cons_zero, List.set_cons_succ, asg, asgs, asgN, asgNs, T.names, T.namess, wipeE, frzE, Option.map_some, if_true, if_false, reduceCtorEq, Nat.zero_add, Nat.reduceAdd, Nat.reduceSub, Nat.reduceLT, Nat.reduceLeDiff, E.isNon, D.isI, Bool.false_or, Bool.true_or, Bool.not_true, Bool.not_false, Bool.true_and, Bool.false_and, Bool.and_true, Bool.or_false, Bool.or_true, Bool.false_eq_true, o_add, o_sub, c_eqI, c_neI, c_lt, c_le, c_gt, c_ge, c_is, c_isnot, b_lenL, b_lenT, b_int, b_tupL, b_tupT, b_lstL, b_lstT, i_sL, i_sT, i_eL, i_eT, slT, slLs, sl1, isiD, tyD, s_is_lock B L (Nat.le_add_left 4 k) ht hl he]
  cases lockB p d m t <;> simp only [exs, ex, ev, evs, rb_ok, rb_exc, ro_ok, ro_exc, ob_nx, ob_rt, ob_exc, oo_some, rs_some, an_nx, an_rt, an_exc, bi_some, bi_some', FD.start, List.map_cons, List.map_nil, List.length_cons, List.length_nil, List.cons_append, List.nil_append, List.replicate, List.getElem?_cons_zero, List.getElem?_cons_succ, List.set_cons_zero, List.set_cons_succ, asg, asgs, asgN, asgNs, T.names, T.namess, wipeE, frzE, Option.map_some, if_true, if_false, reduceCtorEq, Nat.zero_add, Nat.reduceAdd, Nat.reduceSub, Nat.reduceLT, Nat.reduceLeDiff, E.isNon, D.isI, Bool.false_or, Bool.true_or, Bool.not_true, Bool.not_false, Bool.true_and, Bool.false_and, Bool.and_true, Bool.or_false, Bool.or_true, Bool.false_eq_true, o_add, o_sub, c_eqI, c_neI, c_lt, c_le, c_gt, c_ge, c_is, c_isnot, b_lenL, b_lenT, b_int, b_tupL, b_tupT, b_lstL, b_lstT, i_sL, i_sT, i_eL, i_eT, slT, slLs, sl1, isiD, tyD]
theorem tT_he {l : List (List Int)} (h : ∀ e ∈ l, e.length ≤ 1000000) : ∀ e ∈ (tTt l).items, e.items.length ≤ 1000000 := fun e he => by
  obtain ⟨x, hx, rfl⟩ := List.mem_map.mp (show e ∈ l.map tI from he)
  simpa [D.items] using h x hx
theorem s_check_lock (B : B0 P I) (L : B2 P I) (K : B3 P I) (h : 5 ≤ n) {p d m : Int} {l : List (List Int)} (hl : gLock p d m l) : (callsN P w n).call (I.fn 11) [mkD I p d m, tTt l] st = .ok .non st := by
  rw [x_check_lock B L K h deep_tT (by simpa [D.items] using hl.2.1) (tT_he hl.2.2), hl.1]
  rfl
theorem s_check_key' (B : B0 P I) (K : B1 P I) (h : 4 ≤ n) {p d m : Int} {k : List Int} (hk : gKey p d k) : (callsN P w n).call (I.fn 9) [mkD I p d m, tI k] st = .ok .non st := by
  rw [s_check_key B K h deep_tI (by simpa [D.items] using hk.2), hk.1]
  rfl
theorem s_opens (B : B0 P I) (K : B1 P I) (L : B2 P I) (M : B3 P I) (h15 : P.defs (I.fn 15) = some (d_opens I)) (h : 6 ≤ n) {p d m : Int} {k : List Int} {l : List (List Int)} (hk : gKey p d k) (hl : gLock p d m l) :
    (callsN P w n).call (I.fn 15) [mkD I p d m, tI k, tTt l] st = .ok (.bl (fitsB k l)) st := by
  obtain ⟨j, rfl⟩ := lev h
  rw [call_at h15 rfl]
  simp only [d_opens, exs, ex, ev, evs, rb_ok, rb_exc, ro_ok, ro_exc, ob_nx, ob_rt, ob_exc, oo_some, rs_some, an_nx, an_rt, an_exc, bi_some, bi_some', FD.start, List.map_cons, List.map_nil, List.length_cons, List.length_nil, List.cons_append, List.nil_append, List.replicate, List.getElem?_cons_zero, List.getElem?_cons_succ, List.set_cons_zero, List.set_cons_succ, asg, asgs, asgN, asgNs, T.names, T.namess, wipeE, frzE, Option.map_some, if_true, if_false, reduceCtorEq, Nat.zero_add, Nat.reduceAdd, Nat.reduceSub, Nat.reduceLT, Nat.reduceLeDiff, E.isNon, D.isI, Bool.false_or, Bool.true_or, Bool.not_true, Bool.not_false, Bool.true_and, Bool.false_and, Bool.and_true, Bool.or_false, Bool.or_true, Bool.false_eq_true, o_add, o_sub, c_eqI, c_neI, c_lt, c_le, c_gt, c_ge, c_is, c_isnot, b_lenL, b_lenT, b_int, b_tupL, b_tupT, b_lstL, b_lstT, i_sL, i_sT, i_eL, i_eT, slT, slLs, sl1, isiD, tyD, s_check_key' B K (show 4 ≤ j + 5 by omega) hk, s_check_lock B L M (show 5 ≤ j + 5 by omega) hl, s_fits K (show 1 ≤ j + 5 by omega) hk.2]
theorem x_opens_key (B : B0 P I) (K : B1 P I) (h15 : P.defs (I.fn 15) = some (d_opens I)) (h : 6 ≤ n) {p d m : Int} {t u : D} (ht : t.deep = true) (htl : t.items.length ≤ 1000000) (hk : keyB p d t = false) :
    (callsN P w n).call (I.fn 15) [mkD I p d m, t, u] st = .exc (I.exc 4) t st := by
  obtain ⟨j, rfl⟩ := lev h
  rw [call_at h15 rfl]
  simp only [d_opens, exs, ex, ev, evs, rb_ok, rb_exc, ro_ok, ro_exc, ob_nx, ob_rt, ob_exc, oo_some, rs_some, an_nx, an_rt, an_exc, bi_some, bi_some', FD.start, List.map_cons, List.map_nil, List.length_cons, List.length_nil, List.cons_append, List.nil_append, List.replicate, List.getElem?_cons_zero, List.getElem?_cons_succ, List.set_cons_zero, List.set_cons_succ, asg, asgs, asgN, asgNs, T.names, T.namess, wipeE, frzE, Option.map_some, if_true, if_false, reduceCtorEq, Nat.zero_add, Nat.reduceAdd, Nat.reduceSub, Nat.reduceLT, Nat.reduceLeDiff, E.isNon, D.isI, Bool.false_or, Bool.true_or, Bool.not_true, Bool.not_false, Bool.true_and, Bool.false_and, Bool.and_true, Bool.or_false, Bool.or_true, Bool.false_eq_true, o_add, o_sub, c_eqI, c_neI, c_lt, c_le, c_gt, c_ge, c_is, c_isnot, b_lenL, b_lenT, b_int, b_tupL, b_tupT, b_lstL, b_lstT, i_sL, i_sT, i_eL, i_eT, slT, slLs, sl1, isiD, tyD, s_check_key B K (show 4 ≤ j + 5 by omega) ht htl, hk]
theorem x_opens_lock (B : B0 P I) (K : B1 P I) (L : B2 P I) (M : B3 P I) (h15 : P.defs (I.fn 15) = some (d_opens I)) (h : 6 ≤ n) {p d m : Int} {k : List Int} {t : D} (hk : gKey p d k) (ht : t.deep = true) (hl : t.items.length ≤ 1000000) (he : ∀ e ∈ t.items, e.items.length ≤ 1000000) (hb : lockB p d m t = false) :
    (callsN P w n).call (I.fn 15) [mkD I p d m, tI k, t] st = .exc (I.exc 5) t st := by
  obtain ⟨j, rfl⟩ := lev h
  rw [call_at h15 rfl]
  simp only [d_opens, exs, ex, ev, evs, rb_ok, rb_exc, ro_ok, ro_exc, ob_nx, ob_rt, ob_exc, oo_some, rs_some, an_nx, an_rt, an_exc, bi_some, bi_some', FD.start, List.map_cons, List.map_nil, List.length_cons, List.length_nil, List.cons_append, List.nil_append, List.replicate, List.getElem?_cons_zero, List.getElem?_cons_succ, List.set_cons_zero, List.set_cons_succ, asg, asgs, asgN, asgNs, T.names, T.namess, wipeE, frzE, Option.map_some, if_true, if_false, reduceCtorEq, Nat.zero_add, Nat.reduceAdd, Nat.reduceSub, Nat.reduceLT, Nat.reduceLeDiff, E.isNon, D.isI, Bool.false_or, Bool.true_or, Bool.not_true, Bool.not_false, Bool.true_and, Bool.false_and, Bool.and_true, Bool.or_false, Bool.or_true, Bool.false_eq_true, o_add, o_sub, c_eqI, c_neI, c_lt, c_le, c_gt, c_ge, c_is, c_isnot, b_lenL, b_lenT, b_int, b_tupL, b_tupT, b_lstL, b_lstT, i_sL, i_sT, i_eL, i_eT, slT, slLs, sl1, isiD, tyD, s_check_key' B K (show 4 ≤ j + 5 by omega) hk, x_check_lock B L M (show 5 ≤ j + 5 by omega) ht hl he, hb]
abbrev lT (ls : List (List (List Int))) : D := .lst (ls.map tTt)
theorem deep_lT {ls : List (List (List Int))} : (lT ls).deep = true := by
  simp only [D.deep]
  exact deeps_of fun d hd => by
    obtain ⟨i, _, rfl⟩ := List.mem_map.mp hd
    exact deep_tT
theorem zipIdx_map' {α β : Type} {f : α → β} : ∀ {l : List α} {k : Nat}, (l.map f).zipIdx k = (l.zipIdx k).map fun q => (f q.1, q.2)
  | [], _ => rfl
  | a :: r, k => by simp only [List.map_cons, List.zipIdx_cons, zipIdx_map' (l := r)]
theorem locksR_good {p d m : Int} {ls : List (List (List Int))} (h8 : ls.length ≤ 8) (hl : ∀ l ∈ ls, gLock p d m l) : locksR p d m (lT ls) = none := by
  simp only [locksR, List.length_map]
  rw [if_neg (by omega)]
  rw [zipIdx_map', List.find?_map, Option.map_map, Option.map_eq_none_iff, List.find?_eq_none]
  intro q hq
  have hq1 : q.1 ∈ ls := (List.mem_zipIdx' hq).2 ▸ List.getElem_mem _
  simp [Function.comp, (hl _ hq1).1]
theorem s_check_locks' (B : B0 P I) (L : B2 P I) (h : 5 ≤ n) {p d m : Int} {ls : List (List (List Int))} (h8 : ls.length ≤ 8) (hl : ∀ l ∈ ls, gLock p d m l) : (callsN P w n).call (I.fn 12) [mkD I p d m, lT ls] st = .ok .non st := by
  rw [s_check_locks B L h deep_lT (by simp [D.items]; omega) (fun e he => ?_), locksR_good h8 hl]
  obtain ⟨x, hx, rfl⟩ := List.mem_map.mp (show e ∈ ls.map tTt from he)
  exact ⟨by simpa [D.items] using (hl x hx).2.1, tT_he (hl x hx).2.2⟩
theorem s_doors_of (B : B0 P I) (K : B1 P I) (L : B2 P I) (h16 : P.defs (I.fn 16) = some (d_doors_of I)) (h : 6 ≤ n) {p d m : Int} {k : List Int} {ls : List (List (List Int))} (hk : gKey p d k) (h8 : ls.length ≤ 8) (hl : ∀ l ∈ ls, gLock p d m l) :
    (callsN P w n).call (I.fn 16) [mkD I p d m, tI k, lT ls] st = .ok (.lst (doorsB k ls)) st := by
  obtain ⟨j, rfl⟩ := lev h
  rw [call_at h16 rfl]
  simp only [d_doors_of, exs, ex, ev, evs, rb_ok, rb_exc, ro_ok, ro_exc, ob_nx, ob_rt, ob_exc, oo_some, rs_some, an_nx, an_rt, an_exc, bi_some, bi_some', FD.start, List.map_cons, List.map_nil, List.length_cons, List.length_nil, List.cons_append, List.nil_append, List.replicate, List.getElem?_cons_zero, List.getElem?_cons_succ, List.set_cons_zero, List.set_cons_succ, asg, asgs, asgN, asgNs, T.names, T.namess, wipeE, frzE, Option.map_some, if_true, if_false, reduceCtorEq, Nat.zero_add, Nat.reduceAdd, Nat.reduceSub, Nat.reduceLT, Nat.reduceLeDiff, E.isNon, D.isI, Bool.false_or, Bool.true_or, Bool.not_true, Bool.not_false, Bool.true_and, Bool.false_and, Bool.and_true, Bool.or_false, Bool.or_true, Bool.false_eq_true, o_add, o_sub, c_eqI, c_neI, c_lt, c_le, c_gt, c_ge, c_is, c_isnot, b_lenL, b_lenT, b_int, b_tupL, b_tupT, b_lstL, b_lstT, i_sL, i_sT, i_eL, i_eT, slT, slLs, sl1, isiD, tyD, s_check_key' B K (show 4 ≤ j + 5 by omega) hk, s_check_locks' B L (show 5 ≤ j + 5 by omega) h8 hl]
  rw [zipIdx_map', List.map_map, compL_of (f := fun q => if fitsB k q.1 then some (D.int (q.2 : Int)) else none) fun q hq => by
    simp only [Function.comp, exs, ex, ev, evs, rb_ok, rb_exc, ro_ok, ro_exc, ob_nx, ob_rt, ob_exc, oo_some, rs_some, an_nx, an_rt, an_exc, bi_some, bi_some', FD.start, List.map_cons, List.map_nil, List.length_cons, List.length_nil, List.cons_append, List.nil_append, List.replicate, List.getElem?_cons_zero, List.getElem?_cons_succ, List.set_cons_zero, List.set_cons_succ, asg, asgs, asgN, asgNs, T.names, T.namess, wipeE, frzE, Option.map_some, if_true, if_false, reduceCtorEq, Nat.zero_add, Nat.reduceAdd, Nat.reduceSub, Nat.reduceLT, Nat.reduceLeDiff, E.isNon, D.isI, Bool.false_or, Bool.true_or, Bool.not_true, Bool.not_false, Bool.true_and, Bool.false_and, Bool.and_true, Bool.or_false, Bool.or_true, Bool.false_eq_true, o_add, o_sub, c_eqI, c_neI, c_lt, c_le, c_gt, c_ge, c_is, c_isnot, b_lenL, b_lenT, b_int, b_tupL, b_tupT, b_lstL, b_lstT, i_sL, i_sT, i_eL, i_eT, slT, slLs, sl1, isiD, tyD, s_fits K (show 1 ≤ j + 5 by omega) hk.2]
    cases fitsB k q.1 <;> simp only [exs, ex, ev, evs, rb_ok, rb_exc, ro_ok, ro_exc, ob_nx, ob_rt, ob_exc, oo_some, rs_some, an_nx, an_rt, an_exc, bi_some, bi_some', FD.start, List.map_cons, List.map_nil, List.length_cons, List.length_nil, List.cons_append, List.nil_append, List.replicate, List.getElem?_cons_zero, List.getElem?_cons_succ, List.set_cons_zero, List.set_cons_succ, asg, asgs, asgN, asgNs, T.names, T.namess, wipeE, frzE, Option.map_some, if_true, if_false, reduceCtorEq, Nat.zero_add, Nat.reduceAdd, Nat.reduceSub, Nat.reduceLT, Nat.reduceLeDiff, E.isNon, D.isI, Bool.false_or, Bool.true_or, Bool.not_true, Bool.not_false, Bool.true_and, Bool.false_and, Bool.and_true, Bool.or_false, Bool.or_true, Bool.false_eq_true, o_add, o_sub, c_eqI, c_neI, c_lt, c_le, c_gt, c_ge, c_is, c_isnot, b_lenL, b_lenT, b_int, b_tupL, b_tupT, b_lstL, b_lstT, i_sL, i_sT, i_eL, i_eT, slT, slLs, sl1, isiD, tyD]]
  have hz : (ls.zipIdx.filterMap fun q => if fitsB k q.1 then some (D.int (q.2 : Int)) else none).length ≤ maxLen := by
    refine Nat.le_trans (List.length_filterMap_le _ _) ?_
    rw [List.length_zipIdx]
    exact Nat.le_trans h8 (by decide)
  simp only [exs, ex, ev, evs, rb_ok, rb_exc, ro_ok, ro_exc, ob_nx, ob_rt, ob_exc, oo_some, rs_some, an_nx, an_rt, an_exc, bi_some, bi_some', FD.start, List.map_cons, List.map_nil, List.length_cons, List.length_nil, List.cons_append, List.nil_append, List.replicate, List.getElem?_cons_zero, List.getElem?_cons_succ, List.set_cons_zero, List.set_cons_succ, asg, asgs, asgN, asgNs, T.names, T.namess, wipeE, frzE, Option.map_some, if_true, if_false, reduceCtorEq, Nat.zero_add, Nat.reduceAdd, Nat.reduceSub, Nat.reduceLT, Nat.reduceLeDiff, E.isNon, D.isI, Bool.false_or, Bool.true_or, Bool.not_true, Bool.not_false, Bool.true_and, Bool.false_and, Bool.and_true, Bool.or_false, Bool.or_true, Bool.false_eq_true, o_add, o_sub, c_eqI, c_neI, c_lt, c_le, c_gt, c_ge, c_is, c_isnot, b_lenL, b_lenT, b_int, b_tupL, b_tupT, b_lstL, b_lstT, i_sL, i_sT, i_eL, i_eT, slT, slLs, sl1, isiD, tyD, hz, doorsB]
theorem o_mulI {i j : Int} (h : smallI j = true) : opB .mul (.int i) (.int j) = some (.int (i * j)) := by
  show (if _ then _ else _) = _
  rw [h, Bool.or_true]
  rfl
theorem smallN {k : Nat} (h : k ≤ 1000000) : smallI (k : Int) = true := by
  unfold smallI
  simp only [Bool.and_eq_true, decide_eq_true_eq]
  omega
theorem s_count_keys (B : B0 P I) (L : B2 P I) (M : B3 P I) (h : 6 ≤ n) {p d m : Int} {l : List (List Int)} (hl : gLock p d m l) : (callsN P w n).call (I.fn 17) [mkD I p d m, tTt l] st = .ok (.int (prodB l)) st := by
  obtain ⟨j, rfl⟩ := lev h
  rw [call_at M.h17 rfl]
  simp only [d_count_keys, exs, ex, ev, evs, rb_ok, rb_exc, ro_ok, ro_exc, ob_nx, ob_rt, ob_exc, oo_some, rs_some, an_nx, an_rt, an_exc, bi_some, bi_some', FD.start, List.map_cons, List.map_nil, List.length_cons, List.length_nil, List.cons_append, List.nil_append, List.replicate, List.getElem?_cons_zero, List.getElem?_cons_succ, List.set_cons_zero, List.set_cons_succ, asg, asgs, asgN, asgNs, T.names, T.namess, wipeE, frzE, Option.map_some, if_true, if_false, reduceCtorEq, Nat.zero_add, Nat.reduceAdd, Nat.reduceSub, Nat.reduceLT, Nat.reduceLeDiff, E.isNon, D.isI, Bool.false_or, Bool.true_or, Bool.not_true, Bool.not_false, Bool.true_and, Bool.false_and, Bool.and_true, Bool.or_false, Bool.or_true, Bool.false_eq_true, o_add, o_sub, c_eqI, c_neI, c_lt, c_le, c_gt, c_ge, c_is, c_isnot, b_lenL, b_lenT, b_int, b_tupL, b_tupT, b_lstL, b_lstT, i_sL, i_sT, i_eL, i_eT, slT, slLs, sl1, isiD, tyD, s_check_lock B L M (show 5 ≤ j + 5 by omega) hl]
  obtain ⟨ρ', e, b', rfl⟩ := forL_fold (st := st) (enc := tI) (turn := fun d ρ st => Out.ofOpt (asgN (.nm 3) d ρ) fun ρ1 => exs P (callsN P w (j + 5)) w [.aug 2 .mul (.bi .len [.var 3])] ρ1 st)
    (fun a ρ => ∃ b', ρ = [.val (mkD I p d m), .val (tTt l), .val (.int a), b']) (fun a (p : List Int) => a * (p.length : Int)) (xs := l) (b := 1) ⟨.no, rfl⟩ (by
      rintro x hx a ρ ⟨b', rfl⟩
      simp only [exs, ex, ev, evs, rb_ok, rb_exc, ro_ok, ro_exc, ob_nx, ob_rt, ob_exc, oo_some, rs_some, an_nx, an_rt, an_exc, bi_some, bi_some', FD.start, List.map_cons, List.map_nil, List.length_cons, List.length_nil, List.cons_append, List.nil_append, List.replicate, List.getElem?_cons_zero, List.getElem?_cons_succ, List.set_cons_zero, List.set_cons_succ, asg, asgs, asgN, asgNs, T.names, T.namess, wipeE, frzE, Option.map_some, if_true, if_false, reduceCtorEq, Nat.zero_add, Nat.reduceAdd, Nat.reduceSub, Nat.reduceLT, Nat.reduceLeDiff, E.isNon, D.isI, Bool.false_or, Bool.true_or, Bool.not_true, Bool.not_false, Bool.true_and, Bool.false_and, Bool.and_true, Bool.or_false, Bool.or_true, Bool.false_eq_true, o_add, o_sub, c_eqI, c_neI, c_lt, c_le, c_gt, c_ge, c_is, c_isnot, b_lenL, b_lenT, b_int, b_tupL, b_tupT, b_lstL, b_lstT, i_sL, i_sT, i_eL, i_eT, slT, slLs, sl1, isiD, tyD, o_mulI (smallN (hl.2.2 x hx)), List.length_map]
      exact ⟨_, rfl, _, rfl⟩)
  simp only [exs, ex, ev, evs, rb_ok, rb_exc, ro_ok, ro_exc, ob_nx, ob_rt, ob_exc, oo_some, rs_some, an_nx, an_rt, an_exc, bi_some, bi_some', FD.start, List.map_cons, List.map_nil, List.length_cons, List.length_nil, List.cons_append, List.nil_append, List.replicate, List.getElem?_cons_zero, List.getElem?_cons_succ, List.set_cons_zero, List.set_cons_succ, asg, asgs, asgN, asgNs, T.names, T.namess, wipeE, frzE, Option.map_some, if_true, if_false, reduceCtorEq, Nat.zero_add, Nat.reduceAdd, Nat.reduceSub, Nat.reduceLT, Nat.reduceLeDiff, E.isNon, D.isI, Bool.false_or, Bool.true_or, Bool.not_true, Bool.not_false, Bool.true_and, Bool.false_and, Bool.and_true, Bool.or_false, Bool.or_true, Bool.false_eq_true, o_add, o_sub, c_eqI, c_neI, c_lt, c_le, c_gt, c_ge, c_is, c_isnot, b_lenL, b_lenT, b_int, b_tupL, b_tupT, b_lstL, b_lstT, i_sL, i_sT, i_eL, i_eT, slT, slLs, sl1, isiD, tyD] at e ⊢
  rw [e]
  simp only [exs, ex, ev, evs, rb_ok, rb_exc, ro_ok, ro_exc, ob_nx, ob_rt, ob_exc, oo_some, rs_some, an_nx, an_rt, an_exc, bi_some, bi_some', FD.start, List.map_cons, List.map_nil, List.length_cons, List.length_nil, List.cons_append, List.nil_append, List.replicate, List.getElem?_cons_zero, List.getElem?_cons_succ, List.set_cons_zero, List.set_cons_succ, asg, asgs, asgN, asgNs, T.names, T.namess, wipeE, frzE, Option.map_some, if_true, if_false, reduceCtorEq, Nat.zero_add, Nat.reduceAdd, Nat.reduceSub, Nat.reduceLT, Nat.reduceLeDiff, E.isNon, D.isI, Bool.false_or, Bool.true_or, Bool.not_true, Bool.not_false, Bool.true_and, Bool.false_and, Bool.and_true, Bool.or_false, Bool.or_true, Bool.false_eq_true, o_add, o_sub, c_eqI, c_neI, c_lt, c_le, c_gt, c_ge, c_is, c_isnot, b_lenL, b_lenT, b_int, b_tupL, b_tupT, b_lstL, b_lstT, i_sL, i_sT, i_eL, i_eT, slT, slLs, sl1, isiD, tyD, prodB]
theorem s_is_shut (B : B0 P I) (L : B2 P I) (M : B3 P I) (h19 : P.defs (I.fn 19) = some (d_is_shut I)) (h : 7 ≤ n) {p d m : Int} {l : List (List Int)} (hl : gLock p d m l) : (callsN P w n).call (I.fn 19) [mkD I p d m, tTt l] st = .ok (.bl (prodB l == 0)) st := by
  obtain ⟨j, rfl⟩ := lev h
  rw [call_at h19 rfl]
  simp only [d_is_shut, exs, ex, ev, evs, rb_ok, rb_exc, ro_ok, ro_exc, ob_nx, ob_rt, ob_exc, oo_some, rs_some, an_nx, an_rt, an_exc, bi_some, bi_some', FD.start, List.map_cons, List.map_nil, List.length_cons, List.length_nil, List.cons_append, List.nil_append, List.replicate, List.getElem?_cons_zero, List.getElem?_cons_succ, List.set_cons_zero, List.set_cons_succ, asg, asgs, asgN, asgNs, T.names, T.namess, wipeE, frzE, Option.map_some, if_true, if_false, reduceCtorEq, Nat.zero_add, Nat.reduceAdd, Nat.reduceSub, Nat.reduceLT, Nat.reduceLeDiff, E.isNon, D.isI, Bool.false_or, Bool.true_or, Bool.not_true, Bool.not_false, Bool.true_and, Bool.false_and, Bool.and_true, Bool.or_false, Bool.or_true, Bool.false_eq_true, o_add, o_sub, c_eqI, c_neI, c_lt, c_le, c_gt, c_ge, c_is, c_isnot, b_lenL, b_lenT, b_int, b_tupL, b_tupT, b_lstL, b_lstT, i_sL, i_sT, i_eL, i_eT, slT, slLs, sl1, isiD, tyD, s_count_keys B L M (show 6 ≤ j + 6 by omega) hl]
theorem x_count_keys (B : B0 P I) (L : B2 P I) (M : B3 P I) (h : 6 ≤ n) {p d m : Int} {t : D} (ht : t.deep = true) (hl : t.items.length ≤ 1000000) (he : ∀ e ∈ t.items, e.items.length ≤ 1000000) (hb : lockB p d m t = false) :
    (callsN P w n).call (I.fn 17) [mkD I p d m, t] st = .exc (I.exc 5) t st := by
  obtain ⟨j, rfl⟩ := lev h
  rw [call_at M.h17 rfl]
  simp only [d_count_keys, exs, ex, ev, evs, rb_ok, rb_exc, ro_ok, ro_exc, ob_nx, ob_rt, ob_exc, oo_some, rs_some, an_nx, an_rt, an_exc, bi_some, bi_some', FD.start, List.map_cons, List.map_nil, List.length_cons, List.length_nil, List.cons_append, List.nil_append, List.replicate, List.getElem?_cons_zero, List.getElem?_cons_succ, List.set_cons_zero, List.set_cons_succ, asg, asgs, asgN, asgNs, T.names, T.namess, wipeE, frzE, Option.map_some, if_true, if_false, reduceCtorEq, Nat.zero_add, Nat.reduceAdd, Nat.reduceSub, Nat.reduceLT, Nat.reduceLeDiff, E.isNon, D.isI, Bool.false_or, Bool.true_or, Bool.not_true, Bool.not_false, Bool.true_and, Bool.false_and, Bool.and_true, Bool.or_false, Bool.or_true, Bool.false_eq_true, o_add, o_sub, c_eqI, c_neI, c_lt, c_le, c_gt, c_ge, c_is, c_isnot, b_lenL, b_lenT, b_int, b_tupL, b_tupT, b_lstL, b_lstT, i_sL, i_sT, i_eL, i_eT, slT, slLs, sl1, isiD, tyD, x_check_lock B L M (show 5 ≤ j + 5 by omega) ht hl he, hb]
theorem x_is_shut (B : B0 P I) (L : B2 P I) (M : B3 P I) (h19 : P.defs (I.fn 19) = some (d_is_shut I)) (h : 7 ≤ n) {p d m : Int} {t : D} (ht : t.deep = true) (hl : t.items.length ≤ 1000000) (he : ∀ e ∈ t.items, e.items.length ≤ 1000000) (hb : lockB p d m t = false) :
    (callsN P w n).call (I.fn 19) [mkD I p d m, t] st = .exc (I.exc 5) t st := by
  obtain ⟨j, rfl⟩ := lev h
  rw [call_at h19 rfl]
  simp only [d_is_shut, exs, ex, ev, evs, rb_ok, rb_exc, ro_ok, ro_exc, ob_nx, ob_rt, ob_exc, oo_some, rs_some, an_nx, an_rt, an_exc, bi_some, bi_some', FD.start, List.map_cons, List.map_nil, List.length_cons, List.length_nil, List.cons_append, List.nil_append, List.replicate, List.getElem?_cons_zero, List.getElem?_cons_succ, List.set_cons_zero, List.set_cons_succ, asg, asgs, asgN, asgNs, T.names, T.namess, wipeE, frzE, Option.map_some, if_true, if_false, reduceCtorEq, Nat.zero_add, Nat.reduceAdd, Nat.reduceSub, Nat.reduceLT, Nat.reduceLeDiff, E.isNon, D.isI, Bool.false_or, Bool.true_or, Bool.not_true, Bool.not_false, Bool.true_and, Bool.false_and, Bool.and_true, Bool.or_false, Bool.or_true, Bool.false_eq_true, o_add, o_sub, c_eqI, c_neI, c_lt, c_le, c_gt, c_ge, c_is, c_isnot, b_lenL, b_lenT, b_int, b_tupL, b_tupT, b_lstL, b_lstT, i_sL, i_sT, i_eL, i_eT, slT, slLs, sl1, isiD, tyD, x_count_keys B L M (show 6 ≤ j + 6 by omega) ht hl he hb]
theorem s_common_keys (B : B0 P I) (K : B1 P I) (L : B2 P I) (M : B3 P I) (h20 : P.defs (I.fn 20) = some (d_common_keys I)) (h : 6 ≤ n) {p d : Nat} {m : Int} {l o : List (List Int)} (hd : d ≤ 10) (hp : p ≤ 10) (hb : ∀ k, k ≤ p → (keysL d k).length ≤ 1000000) (hkl : ∀ k ∈ keysL d p, k.length ≤ 1000000) (hl : gLock p d m l) (ho : gLock p d m o) :
    (callsN P w n).call (I.fn 20) [mkD I p d m, tTt l, tTt o] st = .ok (.lst (((keysL d p).filter fun k => fitsB k l && fitsB k o).map tI)) st := by
  obtain ⟨j, rfl⟩ := lev h
  rw [call_at h20 rfl]
  simp only [d_common_keys, exs, ex, ev, evs, rb_ok, rb_exc, ro_ok, ro_exc, ob_nx, ob_rt, ob_exc, oo_some, rs_some, an_nx, an_rt, an_exc, bi_some, bi_some', FD.start, List.map_cons, List.map_nil, List.length_cons, List.length_nil, List.cons_append, List.nil_append, List.replicate, List.getElem?_cons_zero, List.getElem?_cons_succ, List.set_cons_zero, List.set_cons_succ, asg, asgs, asgN, asgNs, T.names, T.namess, wipeE, frzE, Option.map_some, if_true, if_false, reduceCtorEq, Nat.zero_add, Nat.reduceAdd, Nat.reduceSub, Nat.reduceLT, Nat.reduceLeDiff, E.isNon, D.isI, Bool.false_or, Bool.true_or, Bool.not_true, Bool.not_false, Bool.true_and, Bool.false_and, Bool.and_true, Bool.or_false, Bool.or_true, Bool.false_eq_true, o_add, o_sub, c_eqI, c_neI, c_lt, c_le, c_gt, c_ge, c_is, c_isnot, b_lenL, b_lenT, b_int, b_tupL, b_tupT, b_lstL, b_lstT, i_sL, i_sT, i_eL, i_eT, slT, slLs, sl1, isiD, tyD, s_check_lock B L M (show 5 ≤ j + 5 by omega) hl, s_check_lock B L M (show 5 ≤ j + 5 by omega) ho, s_all_keys B L (show 2 ≤ j + 5 by omega) hd hp hb]
  rw [compL_ofF (p := fun k => fitsB k l && fitsB k o) (f := tI) fun k hk => by
    simp only [exs, ex, ev, evs, rb_ok, rb_exc, ro_ok, ro_exc, ob_nx, ob_rt, ob_exc, oo_some, rs_some, an_nx, an_rt, an_exc, bi_some, bi_some', FD.start, List.map_cons, List.map_nil, List.length_cons, List.length_nil, List.cons_append, List.nil_append, List.replicate, List.getElem?_cons_zero, List.getElem?_cons_succ, List.set_cons_zero, List.set_cons_succ, asg, asgs, asgN, asgNs, T.names, T.namess, wipeE, frzE, Option.map_some, if_true, if_false, reduceCtorEq, Nat.zero_add, Nat.reduceAdd, Nat.reduceSub, Nat.reduceLT, Nat.reduceLeDiff, E.isNon, D.isI, Bool.false_or, Bool.true_or, Bool.not_true, Bool.not_false, Bool.true_and, Bool.false_and, Bool.and_true, Bool.or_false, Bool.or_true, Bool.false_eq_true, o_add, o_sub, c_eqI, c_neI, c_lt, c_le, c_gt, c_ge, c_is, c_isnot, b_lenL, b_lenT, b_int, b_tupL, b_tupT, b_lstL, b_lstT, i_sL, i_sT, i_eL, i_eT, slT, slLs, sl1, isiD, tyD, s_fits K (show 1 ≤ j + 5 by omega) (hkl k hk)]
    cases fitsB k l <;> simp only [exs, ex, ev, evs, rb_ok, rb_exc, ro_ok, ro_exc, ob_nx, ob_rt, ob_exc, oo_some, rs_some, an_nx, an_rt, an_exc, bi_some, bi_some', FD.start, List.map_cons, List.map_nil, List.length_cons, List.length_nil, List.cons_append, List.nil_append, List.replicate, List.getElem?_cons_zero, List.getElem?_cons_succ, List.set_cons_zero, List.set_cons_succ, asg, asgs, asgN, asgNs, T.names, T.namess, wipeE, frzE, Option.map_some, if_true, if_false, reduceCtorEq, Nat.zero_add, Nat.reduceAdd, Nat.reduceSub, Nat.reduceLT, Nat.reduceLeDiff, E.isNon, D.isI, Bool.false_or, Bool.true_or, Bool.not_true, Bool.not_false, Bool.true_and, Bool.false_and, Bool.and_true, Bool.or_false, Bool.or_true, Bool.false_eq_true, o_add, o_sub, c_eqI, c_neI, c_lt, c_le, c_gt, c_ge, c_is, c_isnot, b_lenL, b_lenT, b_int, b_tupL, b_tupT, b_lstL, b_lstT, i_sL, i_sT, i_eL, i_eT, slT, slLs, sl1, isiD, tyD, s_fits K (show 1 ≤ j + 5 by omega) (hkl k hk)]
    cases fitsB k o <;> simp only [exs, ex, ev, evs, rb_ok, rb_exc, ro_ok, ro_exc, ob_nx, ob_rt, ob_exc, oo_some, rs_some, an_nx, an_rt, an_exc, bi_some, bi_some', FD.start, List.map_cons, List.map_nil, List.length_cons, List.length_nil, List.cons_append, List.nil_append, List.replicate, List.getElem?_cons_zero, List.getElem?_cons_succ, List.set_cons_zero, List.set_cons_succ, asg, asgs, asgN, asgNs, T.names, T.namess, wipeE, frzE, Option.map_some, if_true, if_false, reduceCtorEq, Nat.zero_add, Nat.reduceAdd, Nat.reduceSub, Nat.reduceLT, Nat.reduceLeDiff, E.isNon, D.isI, Bool.false_or, Bool.true_or, Bool.not_true, Bool.not_false, Bool.true_and, Bool.false_and, Bool.and_true, Bool.or_false, Bool.or_true, Bool.false_eq_true, o_add, o_sub, c_eqI, c_neI, c_lt, c_le, c_gt, c_ge, c_is, c_isnot, b_lenL, b_lenT, b_int, b_tupL, b_tupT, b_lstL, b_lstT, i_sL, i_sT, i_eL, i_eT, slT, slLs, sl1, isiD, tyD]]
  have hz : (((keysL d p).filter fun k => fitsB k l && fitsB k o).map tI).length ≤ maxLen := by
    rw [List.length_map]
    exact Nat.le_trans (List.length_filter_le _ _) (hb p (Nat.le_refl _))
  simp only [exs, ex, ev, evs, rb_ok, rb_exc, ro_ok, ro_exc, ob_nx, ob_rt, ob_exc, oo_some, rs_some, an_nx, an_rt, an_exc, bi_some, bi_some', FD.start, List.map_cons, List.map_nil, List.length_cons, List.length_nil, List.cons_append, List.nil_append, List.replicate, List.getElem?_cons_zero, List.getElem?_cons_succ, List.set_cons_zero, List.set_cons_succ, asg, asgs, asgN, asgNs, T.names, T.namess, wipeE, frzE, Option.map_some, if_true, if_false, reduceCtorEq, Nat.zero_add, Nat.reduceAdd, Nat.reduceSub, Nat.reduceLT, Nat.reduceLeDiff, E.isNon, D.isI, Bool.false_or, Bool.true_or, Bool.not_true, Bool.not_false, Bool.true_and, Bool.false_and, Bool.and_true, Bool.or_false, Bool.or_true, Bool.false_eq_true, o_add, o_sub, c_eqI, c_neI, c_lt, c_le, c_gt, c_ge, c_is, c_isnot, b_lenL, b_lenT, b_int, b_tupL, b_tupT, b_lstL, b_lstT, i_sL, i_sT, i_eL, i_eT, slT, slLs, sl1, isiD, tyD, hz]
end
end Mini
end
section
set_option Elab.async false
set_option linter.all false
set_option maxRecDepth 100000
set_option maxHeartbeats 2000000
/-! # what the law's own functions tell: draws -/
namespace Mini
open PySem Mini.P
/-- the row of draws -/
abbrev rowSt (ns : List Int) (s : Int × Int × Int) : Store := [.lst [.scr ns, .int s.1, .int s.2.1, .int s.2.2]]
def RowOk (s : Int × Int × Int) : Prop := 0 ≤ s.1
structure BL (P : Prog) (I : Ix) : Prop where
  l21 : P.defs (I.fn 21) = some (d__law_taken I)
  l22 : P.defs (I.fn 22) = some (d__law_pick I)
theorem o_fdiv {i j : Int} (h : j ≠ 0) (h' : j.natAbs < 1073741824) : opB .fdiv (.int i) (.int j) = some (.int (i.fdiv j)) := by
  show (if _ then _ else _) = _
  rw [if_pos ⟨h, h'⟩]
theorem o_md {i j : Int} (h : j ≠ 0) : opB .md (.int i) (.int j) = some (.int (i.fmod j)) := by
  show (if _ then _ else _) = _
  rw [if_pos h]
theorem o_pow18 : opB .pow (.int 10) (.int 18) = some (.int 1000000000000000000) := by simp [opB]
theorem b_lenS {l : List Int} : opBi .len [.scr l] = some (.int l.length) := rfl
section
variable {a b c d e : D}
theorem at40 : atD [a, b, c, d] 0 = some a := rfl
theorem at41 : atD [a, b, c, d] 1 = some b := rfl
theorem at42 : atD [a, b, c, d] 2 = some c := rfl
theorem at43 : atD [a, b, c, d] 3 = some d := rfl
theorem pu41 : putAt [a, b, c, d] 1 e = some [a, e, c, d] := rfl
theorem pu42 : putAt [a, b, c, d] 2 e = some [a, b, e, d] := rfl
theorem pu43 : putAt [a, b, c, d] 3 e = some [a, b, c, e] := rfl
theorem at30 : atD [a, b, c] 0 = some a := rfl
theorem at31 : atD [a, b, c] 1 = some b := rfl
theorem at32 : atD [a, b, c] 2 = some c := rfl
end
theorem at_pos {α : Type} {l : List α} {i : Int} {k : Nat} (h : i = k) (hk : k < l.length) : atD l i = some l[k] := by
  subst h
  unfold atD
  rw [if_pos (by omega)]
  simp [List.getElem?_eq_getElem hk]
section
variable {P : Prog} {I : Ix} {w n : Nat} {ns : List Int}
theorem s_taken (L : BL P I) (h : 1 ≤ n) {s : Int × Int × Int} (hs : RowOk s) {m : Int} (h1 : 1 ≤ m) (h2 : m ≤ 1000000) :
    ∃ r s', (callsN P w n).call (I.fn 21) [.ptr 0, .int m] (rowSt ns s) = .ok (.int r) (rowSt ns s') ∧ RowOk s' ∧ 0 ≤ r ∧ r < m := by
  obtain ⟨k, rfl⟩ := lev h
  obtain ⟨a, b, c⟩ := s
  rw [call_at L.l21 rfl]
  have m0 : m ≠ 0 := by omega
  have mn : m.natAbs < 1073741824 := by omega
  have mp : 0 < m := by omega
  have ha : 0 ≤ a := hs
  simp only [d__law_taken, exs, ex, ev, evs, rb_ok, rb_exc, ro_ok, ro_exc, ob_nx, ob_rt, ob_exc, oo_some, rs_some, an_nx, an_rt, an_exc, bi_some, bi_some', FD.start, List.map_cons, List.map_nil, List.length_cons, List.length_nil, List.cons_append, List.nil_append, List.replicate, List.getElem?_cons_zero, List.getElem?_cons_succ, List.set_cons_zero, List.set_cons_succ, asg, asgs, asgN, asgNs, T.names, T.namess, wipeE, frzE, Option.map_some, if_true, if_false, reduceCtorEq, Nat.zero_add, Nat.reduceAdd, Nat.reduceSub, Nat.reduceLT, Nat.reduceLeDiff, E.isNon, D.isI, Bool.false_or, Bool.true_or, Bool.not_true, Bool.not_false, Bool.true_and, Bool.false_and, Bool.and_true, Bool.or_false, Bool.or_true, Bool.false_eq_true, o_add, o_sub, c_eqI, c_neI, c_lt, c_le, c_gt, c_ge, c_is, c_isnot, b_lenL, b_lenT, b_int, b_tupL, b_tupT, b_lstL, b_lstT, i_sL, i_sT, i_eL, i_eT, slT, slLs, sl1, isiD, tyD, at43, at42, at41, at40]
  by_cases c0 : 0 < c
  · simp only [c0, decide_true, exs, ex, ev, evs, rb_ok, rb_exc, ro_ok, ro_exc, ob_nx, ob_rt, ob_exc, oo_some, rs_some, an_nx, an_rt, an_exc, bi_some, bi_some', FD.start, List.map_cons, List.map_nil, List.length_cons, List.length_nil, List.cons_append, List.nil_append, List.replicate, List.getElem?_cons_zero, List.getElem?_cons_succ, List.set_cons_zero, List.set_cons_succ, asg, asgs, asgN, asgNs, T.names, T.namess, wipeE, frzE, Option.map_some, if_true, if_false, reduceCtorEq, Nat.zero_add, Nat.reduceAdd, Nat.reduceSub, Nat.reduceLT, Nat.reduceLeDiff, E.isNon, D.isI, Bool.false_or, Bool.true_or, Bool.not_true, Bool.not_false, Bool.true_and, Bool.false_and, Bool.and_true, Bool.or_false, Bool.or_true, Bool.false_eq_true, o_add, o_sub, c_eqI, c_neI, c_lt, c_le, c_gt, c_ge, c_is, c_isnot, b_lenL, b_lenT, b_int, b_tupL, b_tupT, b_lstL, b_lstT, i_sL, i_sT, i_eL, i_eT, slT, slLs, sl1, isiD, tyD, at43, o_md m0, o_fdiv m0 mn, pu43]
    exact ⟨_, (a, b, c.fdiv m), rfl, ha, Int.fmod_nonneg_of_pos c mp, Int.fmod_lt_of_pos c mp⟩
  · simp only [c0, decide_false, exs, ex, ev, evs, rb_ok, rb_exc, ro_ok, ro_exc, ob_nx, ob_rt, ob_exc, oo_some, rs_some, an_nx, an_rt, an_exc, bi_some, bi_some', FD.start, List.map_cons, List.map_nil, List.length_cons, List.length_nil, List.cons_append, List.nil_append, List.replicate, List.getElem?_cons_zero, List.getElem?_cons_succ, List.set_cons_zero, List.set_cons_succ, asg, asgs, asgN, asgNs, T.names, T.namess, wipeE, frzE, Option.map_some, if_true, if_false, reduceCtorEq, Nat.zero_add, Nat.reduceAdd, Nat.reduceSub, Nat.reduceLT, Nat.reduceLeDiff, E.isNon, D.isI, Bool.false_or, Bool.true_or, Bool.not_true, Bool.not_false, Bool.true_and, Bool.false_and, Bool.and_true, Bool.or_false, Bool.or_true, Bool.false_eq_true, o_add, o_sub, c_eqI, c_neI, c_lt, c_le, c_gt, c_ge, c_is, c_isnot, b_lenL, b_lenT, b_int, b_tupL, b_tupT, b_lstL, b_lstT, i_sL, i_sT, i_eL, i_eT, slT, slLs, sl1, isiD, tyD, at43, at42, at41, at40, pu41, b_lenS]
    by_cases c1 : (ns.length : Int) < a + 1
    · simp only [c1, decide_true, exs, ex, ev, evs, rb_ok, rb_exc, ro_ok, ro_exc, ob_nx, ob_rt, ob_exc, oo_some, rs_some, an_nx, an_rt, an_exc, bi_some, bi_some', FD.start, List.map_cons, List.map_nil, List.length_cons, List.length_nil, List.cons_append, List.nil_append, List.replicate, List.getElem?_cons_zero, List.getElem?_cons_succ, List.set_cons_zero, List.set_cons_succ, asg, asgs, asgN, asgNs, T.names, T.namess, wipeE, frzE, Option.map_some, if_true, if_false, reduceCtorEq, Nat.zero_add, Nat.reduceAdd, Nat.reduceSub, Nat.reduceLT, Nat.reduceLeDiff, E.isNon, D.isI, Bool.false_or, Bool.true_or, Bool.not_true, Bool.not_false, Bool.true_and, Bool.false_and, Bool.and_true, Bool.or_false, Bool.or_true, Bool.false_eq_true, o_add, o_sub, c_eqI, c_neI, c_lt, c_le, c_gt, c_ge, c_is, c_isnot, b_lenL, b_lenT, b_int, b_tupL, b_tupT, b_lstL, b_lstT, i_sL, i_sT, i_eL, i_eT, slT, slLs, sl1, isiD, tyD, at43, at42, at41, at40, pu42, o_mulI (show smallI 48271 = true by decide), o_md (show (2147483647 : Int) ≠ 0 by decide), o_fdiv (show (7 : Int) ≠ 0 by decide) (by decide), o_md m0]
      exact ⟨_, (a + 1, _, c), rfl, by show 0 ≤ a + 1; omega, Int.fmod_nonneg_of_pos _ mp, Int.fmod_lt_of_pos _ mp⟩
    · have hk : a.toNat < ns.length := by omega
      have hat : atD ns (a + 1 - 1) = some ns[a.toNat] := at_pos (by omega) hk
      simp only [c1, decide_false, exs, ex, ev, evs, rb_ok, rb_exc, ro_ok, ro_exc, ob_nx, ob_rt, ob_exc, oo_some, rs_some, an_nx, an_rt, an_exc, bi_some, bi_some', FD.start, List.map_cons, List.map_nil, List.length_cons, List.length_nil, List.cons_append, List.nil_append, List.replicate, List.getElem?_cons_zero, List.getElem?_cons_succ, List.set_cons_zero, List.set_cons_succ, asg, asgs, asgN, asgNs, T.names, T.namess, wipeE, frzE, Option.map_some, if_true, if_false, reduceCtorEq, Nat.zero_add, Nat.reduceAdd, Nat.reduceSub, Nat.reduceLT, Nat.reduceLeDiff, E.isNon, D.isI, Bool.false_or, Bool.true_or, Bool.not_true, Bool.not_false, Bool.true_and, Bool.false_and, Bool.and_true, Bool.or_false, Bool.or_true, Bool.false_eq_true, o_add, o_sub, c_eqI, c_neI, c_lt, c_le, c_gt, c_ge, c_is, c_isnot, b_lenL, b_lenT, b_int, b_tupL, b_tupT, b_lstL, b_lstT, i_sL, i_sT, i_eL, i_eT, slT, slLs, sl1, isiD, tyD, at43, at42, at41, at40, pu42, hat, o_mulI (show smallI 48271 = true by decide), o_md (show (2147483647 : Int) ≠ 0 by decide), o_pow18]
      by_cases c2 : (1000000000000000000 : Int) ≤ ns[a.toNat]
      · simp only [c2, decide_true, exs, ex, ev, evs, rb_ok, rb_exc, ro_ok, ro_exc, ob_nx, ob_rt, ob_exc, oo_some, rs_some, an_nx, an_rt, an_exc, bi_some, bi_some', FD.start, List.map_cons, List.map_nil, List.length_cons, List.length_nil, List.cons_append, List.nil_append, List.replicate, List.getElem?_cons_zero, List.getElem?_cons_succ, List.set_cons_zero, List.set_cons_succ, asg, asgs, asgN, asgNs, T.names, T.namess, wipeE, frzE, Option.map_some, if_true, if_false, reduceCtorEq, Nat.zero_add, Nat.reduceAdd, Nat.reduceSub, Nat.reduceLT, Nat.reduceLeDiff, E.isNon, D.isI, Bool.false_or, Bool.true_or, Bool.not_true, Bool.not_false, Bool.true_and, Bool.false_and, Bool.and_true, Bool.or_false, Bool.or_true, Bool.false_eq_true, o_add, o_sub, c_eqI, c_neI, c_lt, c_le, c_gt, c_ge, c_is, c_isnot, b_lenL, b_lenT, b_int, b_tupL, b_tupT, b_lstL, b_lstT, i_sL, i_sT, i_eL, i_eT, slT, slLs, sl1, isiD, tyD, o_fdiv m0 mn, pu43, o_md m0]
        exact ⟨_, (a + 1, _, _), rfl, by show 0 ≤ a + 1; omega, Int.fmod_nonneg_of_pos _ mp, Int.fmod_lt_of_pos _ mp⟩
      · simp only [c2, decide_false, exs, ex, ev, evs, rb_ok, rb_exc, ro_ok, ro_exc, ob_nx, ob_rt, ob_exc, oo_some, rs_some, an_nx, an_rt, an_exc, bi_some, bi_some', FD.start, List.map_cons, List.map_nil, List.length_cons, List.length_nil, List.cons_append, List.nil_append, List.replicate, List.getElem?_cons_zero, List.getElem?_cons_succ, List.set_cons_zero, List.set_cons_succ, asg, asgs, asgN, asgNs, T.names, T.namess, wipeE, frzE, Option.map_some, if_true, if_false, reduceCtorEq, Nat.zero_add, Nat.reduceAdd, Nat.reduceSub, Nat.reduceLT, Nat.reduceLeDiff, E.isNon, D.isI, Bool.false_or, Bool.true_or, Bool.not_true, Bool.not_false, Bool.true_and, Bool.false_and, Bool.and_true, Bool.or_false, Bool.or_true, Bool.false_eq_true, o_add, o_sub, c_eqI, c_neI, c_lt, c_le, c_gt, c_ge, c_is, c_isnot, b_lenL, b_lenT, b_int, b_tupL, b_tupT, b_lstL, b_lstT, i_sL, i_sT, i_eL, i_eT, slT, slLs, sl1, isiD, tyD, o_md m0]
        exact ⟨_, (a + 1, _, c), rfl, by show 0 ≤ a + 1; omega, Int.fmod_nonneg_of_pos _ mp, Int.fmod_lt_of_pos _ mp⟩
theorem s_pick (L : BL P I) (h : 2 ≤ n) {s : Int × Int × Int} (hs : RowOk s) {l : List D} (h0 : l ≠ []) (h1 : l.length ≤ 1000000) :
    ∃ x s', (callsN P w n).call (I.fn 22) [.ptr 0, .lst l] (rowSt ns s) = .ok x (rowSt ns s') ∧ RowOk s' ∧ x ∈ l := by
  obtain ⟨k, rfl⟩ := lev h
  rw [call_at L.l22 rfl]
  have hl : 0 < l.length := List.length_pos_iff.mpr h0
  obtain ⟨r, s', e, h2, h3, h4⟩ := s_taken (w := w) (ns := ns) L (show 1 ≤ k + 1 by omega) hs (m := (l.length : Int)) (by omega) (by omega)
  have hr : r.toNat < l.length := by omega
  have hat : atD l r = some l[r.toNat] := at_pos (by omega) hr
  simp only [d__law_pick, exs, ex, ev, evs, rb_ok, rb_exc, ro_ok, ro_exc, ob_nx, ob_rt, ob_exc, oo_some, rs_some, an_nx, an_rt, an_exc, bi_some, bi_some', FD.start, List.map_cons, List.map_nil, List.length_cons, List.length_nil, List.cons_append, List.nil_append, List.replicate, List.getElem?_cons_zero, List.getElem?_cons_succ, List.set_cons_zero, List.set_cons_succ, asg, asgs, asgN, asgNs, T.names, T.namess, wipeE, frzE, Option.map_some, if_true, if_false, reduceCtorEq, Nat.zero_add, Nat.reduceAdd, Nat.reduceSub, Nat.reduceLT, Nat.reduceLeDiff, E.isNon, D.isI, Bool.false_or, Bool.true_or, Bool.not_true, Bool.not_false, Bool.true_and, Bool.false_and, Bool.and_true, Bool.or_false, Bool.or_true, Bool.false_eq_true, o_add, o_sub, c_eqI, c_neI, c_lt, c_le, c_gt, c_ge, c_is, c_isnot, b_lenL, b_lenT, b_int, b_tupL, b_tupT, b_lstL, b_lstT, i_sL, i_sT, i_eL, i_eT, slT, slLs, sl1, isiD, tyD, e, hat]
  exact ⟨_, s', rfl, h2, List.getElem_mem hr⟩
end
end Mini
end
section
set_option Elab.async false
set_option linter.all false
set_option maxRecDepth 100000
set_option maxHeartbeats 2000000
/-! # what the law's own functions tell: alike, sorted without doubles, good keys and locks -/
namespace Mini
open PySem Mini.P
mutual
/-- data that the law compares -/
def D.al : D → Bool
  | .non => true
  | .bl _ => true
  | .int _ => true
  | .str x => strOk x
  | .lst l => D.als l && decide (l.length ≤ 1000000)
  | .tup l => D.als l && decide (l.length ≤ 1000000)
  | _ => false
def D.als : List D → Bool
  | [] => true
  | d :: ds => D.al d && D.als ds
end
theorem als_mem : ∀ {l : List D}, D.als l = true → ∀ d ∈ l, d.al = true
  | d :: ds, h, e, he => by
    have h' : d.al = true ∧ D.als ds = true := by simpa [D.als] using h
    rcases List.mem_cons.mp he with rfl | he
    · exact h'.1
    · exact als_mem h'.2 e he
theorem als_of : ∀ {l : List D}, (∀ d ∈ l, d.al = true) → D.als l = true
  | [], _ => rfl
  | d :: ds, h => by
    simp only [D.als, Bool.and_eq_true]
    exact ⟨h d List.mem_cons_self, als_of fun e he => h e (List.mem_cons_of_mem _ he)⟩
theorem depth_mem' : ∀ {l : List D}, ∀ d ∈ l, d.depth ≤ D.depths l
  | d :: ds, e, he => by
    simp only [D.depths]
    rcases List.mem_cons.mp he with rfl | he
    · exact Nat.le_max_left _ _
    · exact Nat.le_trans (depth_mem' e he) (Nat.le_max_right _ _)
theorem c_eqB {a b : Bool} : opC .eq (.bl a) (.bl b) = some (a == b) := by
  show eqD _ _ = _
  simp [eqD, D.plain, D.depth, D.eqv]
theorem c_neB {a b : Bool} : opC .ne (.bl a) (.bl b) = some (!(a == b)) := by
  show (eqD (.bl a) (.bl b)).map (!·) = _
  rw [show eqD (.bl a) (.bl b) = some (a == b) from c_eqB]
  rfl
theorem c_eqN : opC .eq .non .non = some true := by
  show eqD _ _ = _
  simp [eqD, D.plain, D.depth, D.eqv]
theorem c_eqS {x : Str} (h : strOk x = true) : opC .eq (.str x) (.str x) = some true := by
  show eqD _ _ = _
  simp [eqD, D.plain, D.depth, D.eqv, h]
theorem c_eqE : opC .eq (.lst []) (.lst []) = some true := by
  show eqD _ _ = _
  simp [eqD, D.plain, D.plains, D.depth, D.depths, D.eqv, D.eqvs]
theorem isi1 {d : D} {t : Ty} {b : Bool} (h : tyD d t = some b) : isiD d [t] = some b := by
  simp only [isiD, h]
  cases b <;> rfl
theorem c_isN {d : D} {b : Bool} (h : isD d .non = some b) : opC .is d .non = some b := h
theorem filterMap_none {α β : Type} {l : List α} : l.filterMap (fun _ => (none : Option β)) = [] := by
  induction l with
  | nil => rfl
  | cons a r ih => simp [List.filterMap_cons, ih]
section
variable {P : Prog} {I : Ix} {w : Nat} {st : Store}
theorem s_alike (h23 : P.defs (I.fn 23) = some (d__law_alike I)) : ∀ (n : Nat) (d : D), d.al = true → d.depth + 1 ≤ n → (callsN P w n).call (I.fn 23) [d, d] st = .ok (.bl true) st := by
  intro n
  induction n with
  | zero => intro d _ h; omega
  | succ n ih =>
    intro d hd hn
    rw [call_at h23 rfl]
    have seq : ∀ (l : List D), D.als l = true → l.length ≤ 1000000 → D.depths l + 1 ≤ n → ∀ k ∈ List.range l.length, ∃ x, l[k]? = some x ∧ (callsN P w n).call (I.fn 23) [x, x] st = .ok (.bl true) st := fun l h1 h2 h3 k hk => by
      have hk := List.mem_range.mp hk
      refine ⟨l[k], List.getElem?_eq_getElem hk, ih _ (als_mem h1 _ (List.getElem_mem hk)) ?_⟩
      have := depth_mem' _ (List.getElem_mem hk)
      omega
    cases d with
    | lst l =>
      have q : D.als l = true ∧ l.length ≤ 1000000 := by simpa [D.al] using hd
      have hn : D.depths l + 1 ≤ n := by simp only [D.depth] at hn; omega
      simp only [d__law_alike, exs, ex, ev, evs, rb_ok, rb_exc, ro_ok, ro_exc, ob_nx, ob_rt, ob_exc, oo_some, rs_some, an_nx, an_rt, an_exc, bi_some, bi_some', FD.start, List.map_cons, List.map_nil, List.length_cons, List.length_nil, List.cons_append, List.nil_append, List.replicate, List.getElem?_cons_zero, List.getElem?_cons_succ, List.set_cons_zero, List.set_cons_succ, asg, asgs, asgN, asgNs, T.names, T.namess, wipeE, frzE, Option.map_some, if_true, if_false, reduceCtorEq, Nat.zero_add, Nat.reduceAdd, Nat.reduceSub, Nat.reduceLT, Nat.reduceLeDiff, E.isNon, D.isI, Bool.false_or, Bool.true_or, Bool.not_true, Bool.not_false, Bool.true_and, Bool.false_and, Bool.and_true, Bool.or_false, Bool.or_true, Bool.false_eq_true, o_add, o_sub, c_eqI, c_neI, c_lt, c_le, c_gt, c_ge, c_is, c_isnot, b_lenL, b_lenT, b_int, b_tupL, b_tupT, b_lstL, b_lstT, i_sL, i_sT, i_eL, i_eT, slT, slLs, sl1, isiD, tyD, shw, c_neB, i_rn (show (l.length : Int) ≤ 1000000 by omega) (show -1000000 ≤ (l.length : Int) by omega), Int.toNat_natCast, beq_self_eq_true]
      rw [compL_of (f := fun _ => none) fun k hk => by
        obtain ⟨x, hx, e⟩ := seq l q.1 q.2 hn k hk
        have hat : atD l (k : Int) = some x := by rw [at_pos rfl (List.mem_range.mp hk)]; rw [List.getElem?_eq_getElem (List.mem_range.mp hk)] at hx; exact hx
        simp only [exs, ex, ev, evs, rb_ok, rb_exc, ro_ok, ro_exc, ob_nx, ob_rt, ob_exc, oo_some, rs_some, an_nx, an_rt, an_exc, bi_some, bi_some', FD.start, List.map_cons, List.map_nil, List.length_cons, List.length_nil, List.cons_append, List.nil_append, List.replicate, List.getElem?_cons_zero, List.getElem?_cons_succ, List.set_cons_zero, List.set_cons_succ, asg, asgs, asgN, asgNs, T.names, T.namess, wipeE, frzE, Option.map_some, if_true, if_false, reduceCtorEq, Nat.zero_add, Nat.reduceAdd, Nat.reduceSub, Nat.reduceLT, Nat.reduceLeDiff, E.isNon, D.isI, Bool.false_or, Bool.true_or, Bool.not_true, Bool.not_false, Bool.true_and, Bool.false_and, Bool.and_true, Bool.or_false, Bool.or_true, Bool.false_eq_true, o_add, o_sub, c_eqI, c_neI, c_lt, c_le, c_gt, c_ge, c_is, c_isnot, b_lenL, b_lenT, b_int, b_tupL, b_tupT, b_lstL, b_lstT, i_sL, i_sT, i_eL, i_eT, slT, slLs, sl1, isiD, tyD, hat, e]]
      simp only [exs, ex, ev, evs, rb_ok, rb_exc, ro_ok, ro_exc, ob_nx, ob_rt, ob_exc, oo_some, rs_some, an_nx, an_rt, an_exc, bi_some, bi_some', FD.start, List.map_cons, List.map_nil, List.length_cons, List.length_nil, List.cons_append, List.nil_append, List.replicate, List.getElem?_cons_zero, List.getElem?_cons_succ, List.set_cons_zero, List.set_cons_succ, asg, asgs, asgN, asgNs, T.names, T.namess, wipeE, frzE, Option.map_some, if_true, if_false, reduceCtorEq, Nat.zero_add, Nat.reduceAdd, Nat.reduceSub, Nat.reduceLT, Nat.reduceLeDiff, E.isNon, D.isI, Bool.false_or, Bool.true_or, Bool.not_true, Bool.not_false, Bool.true_and, Bool.false_and, Bool.and_true, Bool.or_false, Bool.or_true, Bool.false_eq_true, o_add, o_sub, c_eqI, c_neI, c_lt, c_le, c_gt, c_ge, c_is, c_isnot, b_lenL, b_lenT, b_int, b_tupL, b_tupT, b_lstL, b_lstT, i_sL, i_sT, i_eL, i_eT, slT, slLs, sl1, isiD, tyD, filterMap_none, c_eqE, show (0 ≤ maxLen) = True from eq_true (Nat.zero_le _)]
    | tup l =>
      have q : D.als l = true ∧ l.length ≤ 1000000 := by simpa [D.al] using hd
      have hn : D.depths l + 1 ≤ n := by simp only [D.depth] at hn; omega
      simp only [d__law_alike, exs, ex, ev, evs, rb_ok, rb_exc, ro_ok, ro_exc, ob_nx, ob_rt, ob_exc, oo_some, rs_some, an_nx, an_rt, an_exc, bi_some, bi_some', FD.start, List.map_cons, List.map_nil, List.length_cons, List.length_nil, List.cons_append, List.nil_append, List.replicate, List.getElem?_cons_zero, List.getElem?_cons_succ, List.set_cons_zero, List.set_cons_succ, asg, asgs, asgN, asgNs, T.names, T.namess, wipeE, frzE, Option.map_some, if_true, if_false, reduceCtorEq, Nat.zero_add, Nat.reduceAdd, Nat.reduceSub, Nat.reduceLT, Nat.reduceLeDiff, E.isNon, D.isI, Bool.false_or, Bool.true_or, Bool.not_true, Bool.not_false, Bool.true_and, Bool.false_and, Bool.and_true, Bool.or_false, Bool.or_true, Bool.false_eq_true, o_add, o_sub, c_eqI, c_neI, c_lt, c_le, c_gt, c_ge, c_is, c_isnot, b_lenL, b_lenT, b_int, b_tupL, b_tupT, b_lstL, b_lstT, i_sL, i_sT, i_eL, i_eT, slT, slLs, sl1, isiD, tyD, shw, c_neB, i_rn (show (l.length : Int) ≤ 1000000 by omega) (show -1000000 ≤ (l.length : Int) by omega), Int.toNat_natCast, beq_self_eq_true]
      rw [compL_of (f := fun _ => none) fun k hk => by
        obtain ⟨x, hx, e⟩ := seq l q.1 q.2 hn k hk
        have hat : atD l (k : Int) = some x := by rw [at_pos rfl (List.mem_range.mp hk)]; rw [List.getElem?_eq_getElem (List.mem_range.mp hk)] at hx; exact hx
        simp only [exs, ex, ev, evs, rb_ok, rb_exc, ro_ok, ro_exc, ob_nx, ob_rt, ob_exc, oo_some, rs_some, an_nx, an_rt, an_exc, bi_some, bi_some', FD.start, List.map_cons, List.map_nil, List.length_cons, List.length_nil, List.cons_append, List.nil_append, List.replicate, List.getElem?_cons_zero, List.getElem?_cons_succ, List.set_cons_zero, List.set_cons_succ, asg, asgs, asgN, asgNs, T.names, T.namess, wipeE, frzE, Option.map_some, if_true, if_false, reduceCtorEq, Nat.zero_add, Nat.reduceAdd, Nat.reduceSub, Nat.reduceLT, Nat.reduceLeDiff, E.isNon, D.isI, Bool.false_or, Bool.true_or, Bool.not_true, Bool.not_false, Bool.true_and, Bool.false_and, Bool.and_true, Bool.or_false, Bool.or_true, Bool.false_eq_true, o_add, o_sub, c_eqI, c_neI, c_lt, c_le, c_gt, c_ge, c_is, c_isnot, b_lenL, b_lenT, b_int, b_tupL, b_tupT, b_lstL, b_lstT, i_sL, i_sT, i_eL, i_eT, slT, slLs, sl1, isiD, tyD, hat, e]]
      simp only [exs, ex, ev, evs, rb_ok, rb_exc, ro_ok, ro_exc, ob_nx, ob_rt, ob_exc, oo_some, rs_some, an_nx, an_rt, an_exc, bi_some, bi_some', FD.start, List.map_cons, List.map_nil, List.length_cons, List.length_nil, List.cons_append, List.nil_append, List.replicate, List.getElem?_cons_zero, List.getElem?_cons_succ, List.set_cons_zero, List.set_cons_succ, asg, asgs, asgN, asgNs, T.names, T.namess, wipeE, frzE, Option.map_some, if_true, if_false, reduceCtorEq, Nat.zero_add, Nat.reduceAdd, Nat.reduceSub, Nat.reduceLT, Nat.reduceLeDiff, E.isNon, D.isI, Bool.false_or, Bool.true_or, Bool.not_true, Bool.not_false, Bool.true_and, Bool.false_and, Bool.and_true, Bool.or_false, Bool.or_true, Bool.false_eq_true, o_add, o_sub, c_eqI, c_neI, c_lt, c_le, c_gt, c_ge, c_is, c_isnot, b_lenL, b_lenT, b_int, b_tupL, b_tupT, b_lstL, b_lstT, i_sL, i_sT, i_eL, i_eT, slT, slLs, sl1, isiD, tyD, filterMap_none, c_eqE, show (0 ≤ maxLen) = True from eq_true (Nat.zero_le _)]
    | non => simp only [d__law_alike, exs, ex, ev, evs, rb_ok, rb_exc, ro_ok, ro_exc, ob_nx, ob_rt, ob_exc, oo_some, rs_some, an_nx, an_rt, an_exc, bi_some, bi_some', FD.start, List.map_cons, List.map_nil, List.length_cons, List.length_nil, List.cons_append, List.nil_append, List.replicate, List.getElem?_cons_zero, List.getElem?_cons_succ, List.set_cons_zero, List.set_cons_succ, asg, asgs, asgN, asgNs, T.names, T.namess, wipeE, frzE, Option.map_some, if_true, if_false, reduceCtorEq, Nat.zero_add, Nat.reduceAdd, Nat.reduceSub, Nat.reduceLT, Nat.reduceLeDiff, E.isNon, D.isI, Bool.false_or, Bool.true_or, Bool.not_true, Bool.not_false, Bool.true_and, Bool.false_and, Bool.and_true, Bool.or_false, Bool.or_true, Bool.false_eq_true, o_add, o_sub, c_eqI, c_neI, c_lt, c_le, c_gt, c_ge, c_is, c_isnot, b_lenL, b_lenT, b_int, b_tupL, b_tupT, b_lstL, b_lstT, i_sL, i_sT, i_eL, i_eT, slT, slLs, sl1, isiD, tyD, shw, isD, c_eqN, c_eqB, beq_self_eq_true]
    | bl b => simp only [d__law_alike, exs, ex, ev, evs, rb_ok, rb_exc, ro_ok, ro_exc, ob_nx, ob_rt, ob_exc, oo_some, rs_some, an_nx, an_rt, an_exc, bi_some, bi_some', FD.start, List.map_cons, List.map_nil, List.length_cons, List.length_nil, List.cons_append, List.nil_append, List.replicate, List.getElem?_cons_zero, List.getElem?_cons_succ, List.set_cons_zero, List.set_cons_succ, asg, asgs, asgN, asgNs, T.names, T.namess, wipeE, frzE, Option.map_some, if_true, if_false, reduceCtorEq, Nat.zero_add, Nat.reduceAdd, Nat.reduceSub, Nat.reduceLT, Nat.reduceLeDiff, E.isNon, D.isI, Bool.false_or, Bool.true_or, Bool.not_true, Bool.not_false, Bool.true_and, Bool.false_and, Bool.and_true, Bool.or_false, Bool.or_true, Bool.false_eq_true, o_add, o_sub, c_eqI, c_neI, c_lt, c_le, c_gt, c_ge, c_is, c_isnot, b_lenL, b_lenT, b_int, b_tupL, b_tupT, b_lstL, b_lstT, i_sL, i_sT, i_eL, i_eT, slT, slLs, sl1, isiD, tyD, shw, isD, c_eqN, c_eqB, beq_self_eq_true]
    | int i => simp only [d__law_alike, exs, ex, ev, evs, rb_ok, rb_exc, ro_ok, ro_exc, ob_nx, ob_rt, ob_exc, oo_some, rs_some, an_nx, an_rt, an_exc, bi_some, bi_some', FD.start, List.map_cons, List.map_nil, List.length_cons, List.length_nil, List.cons_append, List.nil_append, List.replicate, List.getElem?_cons_zero, List.getElem?_cons_succ, List.set_cons_zero, List.set_cons_succ, asg, asgs, asgN, asgNs, T.names, T.namess, wipeE, frzE, Option.map_some, if_true, if_false, reduceCtorEq, Nat.zero_add, Nat.reduceAdd, Nat.reduceSub, Nat.reduceLT, Nat.reduceLeDiff, E.isNon, D.isI, Bool.false_or, Bool.true_or, Bool.not_true, Bool.not_false, Bool.true_and, Bool.false_and, Bool.and_true, Bool.or_false, Bool.or_true, Bool.false_eq_true, o_add, o_sub, c_eqI, c_neI, c_lt, c_le, c_gt, c_ge, c_is, c_isnot, b_lenL, b_lenT, b_int, b_tupL, b_tupT, b_lstL, b_lstT, i_sL, i_sT, i_eL, i_eT, slT, slLs, sl1, isiD, tyD, shw, isD, c_eqN, c_eqB, beq_self_eq_true]
    | str x => simp only [d__law_alike, exs, ex, ev, evs, rb_ok, rb_exc, ro_ok, ro_exc, ob_nx, ob_rt, ob_exc, oo_some, rs_some, an_nx, an_rt, an_exc, bi_some, bi_some', FD.start, List.map_cons, List.map_nil, List.length_cons, List.length_nil, List.cons_append, List.nil_append, List.replicate, List.getElem?_cons_zero, List.getElem?_cons_succ, List.set_cons_zero, List.set_cons_succ, asg, asgs, asgN, asgNs, T.names, T.namess, wipeE, frzE, Option.map_some, if_true, if_false, reduceCtorEq, Nat.zero_add, Nat.reduceAdd, Nat.reduceSub, Nat.reduceLT, Nat.reduceLeDiff, E.isNon, D.isI, Bool.false_or, Bool.true_or, Bool.not_true, Bool.not_false, Bool.true_and, Bool.false_and, Bool.and_true, Bool.or_false, Bool.or_true, Bool.false_eq_true, o_add, o_sub, c_eqI, c_neI, c_lt, c_le, c_gt, c_ge, c_is, c_isnot, b_lenL, b_lenT, b_int, b_tupL, b_tupT, b_lstL, b_lstT, i_sL, i_sT, i_eL, i_eT, slT, slLs, sl1, isiD, tyD, shw, isD, c_eqS (show strOk x = true by simpa [D.al] using hd), c_eqB, beq_self_eq_true]
    | _ => simp [D.al] at hd
end
end Mini
end
section
set_option Elab.async false
set_option linter.all false
set_option maxRecDepth 100000
set_option maxHeartbeats 2000000
/-! # what the law's own functions tell: sorted without doubles, good keys and locks -/
namespace Mini
open PySem Mini.P
/-! ### sorted, without doubles -/
def uniqF (acc : List Int) (x : Int) : List Int := if acc.getLast? = some x then acc else acc ++ [x]
theorem uniq_fold : ∀ (r acc : List Int), acc.Pairwise (· < ·) → (∀ a ∈ acc, ∀ x ∈ r, a ≤ x) → r.Pairwise (· ≤ ·) → (r.foldl uniqF acc).Pairwise (· < ·) ∧ ∀ k, k ∈ r.foldl uniqF acc ↔ k ∈ acc ∨ k ∈ r
  | [], acc, h, _, _ => ⟨h, fun k => by simp⟩
  | x :: r, acc, h, hr, hp => by
    obtain ⟨p1, p2⟩ := List.pairwise_cons.mp hp
    rw [List.foldl_cons]
    unfold uniqF
    split
    · rename_i e
      have hx : x ∈ acc := List.mem_of_getLast? e
      obtain ⟨q1, q2⟩ := uniq_fold r acc h (fun a ha y hy => hr a ha y (List.mem_cons_of_mem _ hy)) p2
      refine ⟨q1, fun k => ?_⟩
      rw [show r.foldl (fun acc x => if acc.getLast? = some x then acc else acc ++ [x]) acc = r.foldl uniqF acc from rfl, q2 k, List.mem_cons]
      constructor
      · rintro (z | z)
        · exact .inl z
        · exact .inr (.inr z)
      · rintro (z | z | z)
        · exact .inl z
        · subst z; exact .inl hx
        · exact .inr z
    · rename_i e
      have hlt : ∀ a ∈ acc, a < x := fun a ha => by
        have h1 := hr a ha x List.mem_cons_self
        rcases Int.lt_or_eq_of_le h1 with z | z
        · exact z
        · subst z
          -- then it is the last one
          exfalso
          apply e
          obtain ⟨l, hl⟩ : ∃ l, acc.getLast? = some l := by
            cases hq : acc.getLast? with
            | none => rw [List.getLast?_eq_none_iff] at hq; subst hq; cases ha
            | some l => exact ⟨l, rfl⟩
          rw [hl]
          have hlm := List.mem_of_getLast? hl
          have h2 := hr l hlm a List.mem_cons_self
          have h3 : a ≤ l := by
            obtain ⟨ini, rfl⟩ : ∃ ini, acc = ini ++ [l] := by
              obtain ⟨ini, hi⟩ := List.getLast?_eq_some_iff.mp hl
              exact ⟨ini, hi⟩
            rcases List.mem_append.mp ha with z | z
            · have := (List.pairwise_append.mp h).2.2 a z l (by simp)
              omega
            · simp at z; omega
          congr 1
          omega
      obtain ⟨q1, q2⟩ := uniq_fold r (acc ++ [x]) (List.pairwise_append.mpr ⟨h, List.pairwise_singleton _ _, fun a ha b hb => by simp at hb; subst hb; exact hlt a ha⟩)
        (fun a ha y hy => by
          rcases List.mem_append.mp ha with z | z
          · exact hr a z y (List.mem_cons_of_mem _ hy)
          · simp at z; subst z; exact p1 y hy) p2
      refine ⟨q1, fun k => ?_⟩
      rw [show r.foldl (fun acc x => if acc.getLast? = some x then acc else acc ++ [x]) (acc ++ [x]) = r.foldl uniqF (acc ++ [x]) from rfl, q2 k, List.mem_append, List.mem_singleton, List.mem_cons, or_assoc]
theorem sort_le (l : List Int) : (l.mergeSort (fun a b => decide (a ≤ b))).Pairwise (· ≤ ·) := by
  have := List.pairwise_mergeSort (le := fun (a b : Int) => decide (a ≤ b)) (fun a b c h1 h2 => by simp at *; omega) (fun a b => by simp; omega) l
  exact this.imp fun h => by simpa using h
theorem uniq_sort (l : List Int) : (l.mergeSort (fun a b => decide (a ≤ b))).foldl uniqF [] = sortU l := by
  obtain ⟨h1, h2⟩ := uniq_fold (l.mergeSort (fun a b => decide (a ≤ b))) [] List.Pairwise.nil (fun a h => nomatch h) (sort_le l)
  exact sorted_is h1 fun k => by
    rw [h2 k, List.mem_mergeSort]
    simp
theorem sortU_lt (l : List Int) : (sortU l).Pairwise (· < ·) ∧ ∀ k, k ∈ sortU l ↔ k ∈ l := by
  rw [← uniq_sort]
  obtain ⟨h1, h2⟩ := uniq_fold (l.mergeSort (fun a b => decide (a ≤ b))) [] List.Pairwise.nil (fun a h => nomatch h) (sort_le l)
  exact ⟨h1, fun k => by rw [h2 k, List.mem_mergeSort]; simp⟩
theorem rising_int : ∀ l : List Int, rising (l.map .int) = decide (l.Pairwise (· < ·))
  | [] => by simp [rising]
  | [x] => by simp [rising]
  | x :: y :: r => by
    have ih := rising_int (y :: r)
    have e : rising ((x :: y :: r).map .int) = (decide (x < y) && rising ((y :: r).map .int)) := by simp [rising, ltD]
    rw [e, ih, Bool.eq_iff_iff]
    simp only [Bool.and_eq_true, decide_eq_true_eq, List.pairwise_cons]
    constructor
    · rintro ⟨h1, h2, h3⟩
      refine ⟨fun z hz => ?_, h2, h3⟩
      rcases List.mem_cons.mp hz with rfl | hz
      · exact h1
      · have := h2 z hz; omega
    · rintro ⟨h1, h2, h3⟩
      exact ⟨h1 y List.mem_cons_self, h2, h3⟩
theorem sortU_eq {l : List Int} : (l == sortU l) = rising (l.map .int) := by
  rw [rising_int, Bool.eq_iff_iff]
  simp only [beq_iff_eq, decide_eq_true_eq]
  constructor
  · intro e
    rw [e]
    exact (sortU_lt l).1
  · intro h
    exact sorted_is h fun k => Iff.rfl
theorem mergeSort_int (l : List Int) : (l.map D.int).mergeSort D.le = (l.mergeSort (fun a b => decide (a ≤ b))).map .int := by
  exact (List.map_mergeSort (f := D.int) (r := fun (a b : Int) => decide (a ≤ b)) (s := D.le) (l := l) (fun a _ b _ => rfl)).symm
theorem sortD_int {l : List Int} (h : l.length ≤ 1000000) : sortD (l.map .int) = some ((l.mergeSort (fun a b => decide (a ≤ b))).map .int) := by
  unfold sortD
  have c1 : ((l.map D.int).all fun a => (l.map D.int).all fun b => D.shape a b) = true := by
    simp [List.all_map, D.shape]
  have c2 : (l.map D.int).all D.isI = true := by simp [List.all_map, D.isI]
  rw [c1, c2, plains_int, depths_int, mergeSort_int]
  have h' : l.length ≤ maxLen := h
  simp [h']
section
variable {P : Prog} {I : Ix} {w n : Nat} {st : Store}
theorem b_sorted {l : List Int} (h : l.length ≤ 1000000) : opBi .sorted [.lst (l.map .int)] = some (.lst ((l.mergeSort (fun a b => decide (a ≤ b))).map .int)) := by
  show (sortD _).map _ = _
  rw [sortD_int h]
  rfl
theorem c_eqL {a b : List Int} : opC .eq (.lst (a.map .int)) (.lst (b.map .int)) = some (a == b) := by
  show eqD _ _ = _
  rw [eqD_eq (by simp only [D.plain, plains_int]) (by simp only [D.plain, plains_int]) (by simp only [D.depth, depths_int]; decide)]
  simp only [D.eqv, eqvs_int]
theorem c_neL {a b : List Int} : opC .ne (.lst (a.map .int)) (.lst (b.map .int)) = some (!(a == b)) := by
  show (eqD _ _).map _ = _
  rw [show eqD (.lst (a.map .int)) (.lst (b.map .int)) = some (a == b) from c_eqL]
  rfl
theorem unlike_loop (P : Prog) (C : Calls) (w : Nat) (a : Slot) (st : Store) (l : List Int) (hl : l.length ≤ 1000000) : ∃ ρ', forL (fun d ρ st => Out.ofOpt (asgN (.nm 2) d ρ) fun ρ1 => exs P C w [.if_ (.or (.cmp .eq (.bor 1) (.lst [])) (.cmp .ne (.ix (.bor 1) (.neg (.k (.int 1)))) (.var 2))) [.app 1 (.var 2)] []] ρ1 st) (l.map D.int) [a, .own [], .no] st = .nx ρ' st ∧ ∃ b, ρ' = [a, .own ((l.foldl uniqF []).map .int), b] := by
  obtain ⟨ρ', s', e, rfl, b, acc, hacc, _, rfl⟩ := forL_of (enc := D.int) (turn := fun d ρ st => Out.ofOpt (asgN (.nm 2) d ρ) fun ρ1 => exs P C w [.if_ (.or (.cmp .eq (.bor 1) (.lst [])) (.cmp .ne (.ix (.bor 1) (.neg (.k (.int 1)))) (.var 2))) [.app 1 (.var 2)] []] ρ1 st) (xs := l)
    (fun r ρ s => s = st ∧ ∃ b acc, r.foldl uniqF acc = l.foldl uniqF [] ∧ acc.length + r.length ≤ 1000000 ∧ ρ = [a, .own (acc.map .int), b]) (ρ := [a, .own [], .no]) (st := st) ⟨rfl, .no, [], rfl, by simpa using hl, rfl⟩ (by
      rintro x r ρ s ⟨rfl, b, acc, hacc, hlen, rfl⟩
      have hlen' : acc.length ≤ maxLen := by
        have : acc.length ≤ 1000000 := by omega
        exact this
      have e0 : opC .eq (.lst (acc.map .int)) (.lst []) = some (acc == []) := c_eqL (b := [])
      cases hq : acc.getLast? with
      | none =>
        have : acc = [] := List.getLast?_eq_none_iff.mp hq
        subst this
        simp only [exs, ex, ev, evs, rb_ok, rb_exc, ro_ok, ro_exc, ob_nx, ob_rt, ob_exc, oo_some, rs_some, an_nx, an_rt, an_exc, bi_some, bi_some', FD.start, List.map_cons, List.map_nil, List.length_cons, List.length_nil, List.cons_append, List.nil_append, List.replicate, List.getElem?_cons_zero, List.getElem?_cons_succ, List.set_cons_zero, List.set_cons_succ, asg, asgs, asgN, asgNs, T.names, T.namess, wipeE, frzE, Option.map_some, if_true, if_false, reduceCtorEq, Nat.zero_add, Nat.reduceAdd, Nat.reduceSub, Nat.reduceLT, Nat.reduceLeDiff, E.isNon, D.isI, Bool.false_or, Bool.true_or, Bool.not_true, Bool.not_false, Bool.true_and, Bool.false_and, Bool.and_true, Bool.or_false, Bool.or_true, Bool.false_eq_true, o_add, o_sub, c_eqI, c_neI, c_lt, c_le, c_gt, c_ge, c_is, c_isnot, b_lenL, b_lenT, b_int, b_tupL, b_tupT, b_lstL, b_lstT, i_sL, i_sT, i_eL, i_eT, slT, slLs, sl1, isiD, tyD, e0, beq_self_eq_true, show (0 ≤ maxLen) = True from eq_true (Nat.zero_le _)]
        refine ⟨_, _, rfl, rfl, _, [x], by rw [← hacc]; simp [uniqF], by simp at hlen ⊢; omega, rfl⟩
      | some y =>
        obtain ⟨ini, rfl⟩ := List.getLast?_eq_some_iff.mp hq
        have e1 : ((ini ++ [y]) == []) = false := by simp
        have e2 : atD ((ini ++ [y]).map D.int) (-1) = some (.int y) := by
          unfold atD
          rw [if_neg (by omega), if_pos (by simp; omega)]
          have : ((-1 : Int) + (((ini ++ [y]).map D.int).length : Int)).toNat = ini.length := by simp; omega
          rw [this]
          simp
        rw [e1] at e0
        simp only [exs, ex, ev, evs, rb_ok, rb_exc, ro_ok, ro_exc, ob_nx, ob_rt, ob_exc, oo_some, rs_some, an_nx, an_rt, an_exc, bi_some, bi_some', FD.start, List.map_cons, List.map_nil, List.length_cons, List.length_nil, List.cons_append, List.nil_append, List.replicate, List.getElem?_cons_zero, List.getElem?_cons_succ, List.set_cons_zero, List.set_cons_succ, asg, asgs, asgN, asgNs, T.names, T.namess, wipeE, frzE, Option.map_some, if_true, if_false, reduceCtorEq, Nat.zero_add, Nat.reduceAdd, Nat.reduceSub, Nat.reduceLT, Nat.reduceLeDiff, E.isNon, D.isI, Bool.false_or, Bool.true_or, Bool.not_true, Bool.not_false, Bool.true_and, Bool.false_and, Bool.and_true, Bool.or_false, Bool.or_true, Bool.false_eq_true, o_add, o_sub, c_eqI, c_neI, c_lt, c_le, c_gt, c_ge, c_is, c_isnot, b_lenL, b_lenT, b_int, b_tupL, b_tupT, b_lstL, b_lstT, i_sL, i_sT, i_eL, i_eT, slT, slLs, sl1, isiD, tyD, e0, e2]
        by_cases c : y = x
        · subst c
          simp only [beq_self_eq_true, exs, ex, ev, evs, rb_ok, rb_exc, ro_ok, ro_exc, ob_nx, ob_rt, ob_exc, oo_some, rs_some, an_nx, an_rt, an_exc, bi_some, bi_some', FD.start, List.map_cons, List.map_nil, List.length_cons, List.length_nil, List.cons_append, List.nil_append, List.replicate, List.getElem?_cons_zero, List.getElem?_cons_succ, List.set_cons_zero, List.set_cons_succ, asg, asgs, asgN, asgNs, T.names, T.namess, wipeE, frzE, Option.map_some, if_true, if_false, reduceCtorEq, Nat.zero_add, Nat.reduceAdd, Nat.reduceSub, Nat.reduceLT, Nat.reduceLeDiff, E.isNon, D.isI, Bool.false_or, Bool.true_or, Bool.not_true, Bool.not_false, Bool.true_and, Bool.false_and, Bool.and_true, Bool.or_false, Bool.or_true, Bool.false_eq_true, o_add, o_sub, c_eqI, c_neI, c_lt, c_le, c_gt, c_ge, c_is, c_isnot, b_lenL, b_lenT, b_int, b_tupL, b_tupT, b_lstL, b_lstT, i_sL, i_sT, i_eL, i_eT, slT, slLs, sl1, isiD, tyD]
          refine ⟨_, _, rfl, rfl, _, ini ++ [y], by rw [← hacc]; simp [uniqF], by simp at hlen ⊢; omega, rfl⟩
        · simp only [show (y == x) = false by simpa using c, exs, ex, ev, evs, rb_ok, rb_exc, ro_ok, ro_exc, ob_nx, ob_rt, ob_exc, oo_some, rs_some, an_nx, an_rt, an_exc, bi_some, bi_some', FD.start, List.map_cons, List.map_nil, List.length_cons, List.length_nil, List.cons_append, List.nil_append, List.replicate, List.getElem?_cons_zero, List.getElem?_cons_succ, List.set_cons_zero, List.set_cons_succ, asg, asgs, asgN, asgNs, T.names, T.namess, wipeE, frzE, Option.map_some, if_true, if_false, reduceCtorEq, Nat.zero_add, Nat.reduceAdd, Nat.reduceSub, Nat.reduceLT, Nat.reduceLeDiff, E.isNon, D.isI, Bool.false_or, Bool.true_or, Bool.not_true, Bool.not_false, Bool.true_and, Bool.false_and, Bool.and_true, Bool.or_false, Bool.or_true, Bool.false_eq_true, o_add, o_sub, c_eqI, c_neI, c_lt, c_le, c_gt, c_ge, c_is, c_isnot, b_lenL, b_lenT, b_int, b_tupL, b_tupT, b_lstL, b_lstT, i_sL, i_sT, i_eL, i_eT, slT, slLs, sl1, isiD, tyD]
          rw [List.length_map] 
          simp only [hlen', exs, ex, ev, evs, rb_ok, rb_exc, ro_ok, ro_exc, ob_nx, ob_rt, ob_exc, oo_some, rs_some, an_nx, an_rt, an_exc, bi_some, bi_some', FD.start, List.map_cons, List.map_nil, List.length_cons, List.length_nil, List.cons_append, List.nil_append, List.replicate, List.getElem?_cons_zero, List.getElem?_cons_succ, List.set_cons_zero, List.set_cons_succ, asg, asgs, asgN, asgNs, T.names, T.namess, wipeE, frzE, Option.map_some, if_true, if_false, reduceCtorEq, Nat.zero_add, Nat.reduceAdd, Nat.reduceSub, Nat.reduceLT, Nat.reduceLeDiff, E.isNon, D.isI, Bool.false_or, Bool.true_or, Bool.not_true, Bool.not_false, Bool.true_and, Bool.false_and, Bool.and_true, Bool.or_false, Bool.or_true, Bool.false_eq_true, o_add, o_sub, c_eqI, c_neI, c_lt, c_le, c_gt, c_ge, c_is, c_isnot, b_lenL, b_lenT, b_int, b_tupL, b_tupT, b_lstL, b_lstT, i_sL, i_sT, i_eL, i_eT, slT, slLs, sl1, isiD, tyD]
          refine ⟨_, _, rfl, rfl, .val (.int x), (ini ++ [y]) ++ [x], by rw [← hacc]; simp [uniqF, c], by simp at hlen ⊢; omega, by simp⟩)
  simp only [List.foldl_nil] at hacc
  exact ⟨_, e, b, by rw [hacc]⟩
theorem s_unlike (h24 : P.defs (I.fn 24) = some (d__law_unlike I)) (h : 1 ≤ n) {t : D} {l : List Int} (ht : t = .lst (l.map .int) ∨ t = .tup (l.map .int)) (hl : l.length ≤ 1000000) : (callsN P w n).call (I.fn 24) [t] st = .ok (.lst ((sortU l).map .int)) st := by
  obtain ⟨k, rfl⟩ := lev h
  rw [call_at h24 rfl]
  obtain ⟨ρ', e, b, rfl⟩ := unlike_loop P (callsN P w k) w (.val t) st (l.mergeSort (fun a b => decide (a ≤ b))) (by rw [List.length_mergeSort]; exact hl)
  rw [uniq_sort] at e
  have el : opBi .list [t] = some (.lst (l.map .int)) := by rcases ht with rfl | rfl <;> rfl
  simp only [d__law_unlike, exs, ex, ev, evs, rb_ok, rb_exc, ro_ok, ro_exc, ob_nx, ob_rt, ob_exc, oo_some, rs_some, an_nx, an_rt, an_exc, bi_some, bi_some', FD.start, List.map_cons, List.map_nil, List.length_cons, List.length_nil, List.cons_append, List.nil_append, List.replicate, List.getElem?_cons_zero, List.getElem?_cons_succ, List.set_cons_zero, List.set_cons_succ, asg, asgs, asgN, asgNs, T.names, T.namess, wipeE, frzE, Option.map_some, if_true, if_false, reduceCtorEq, Nat.zero_add, Nat.reduceAdd, Nat.reduceSub, Nat.reduceLT, Nat.reduceLeDiff, E.isNon, D.isI, Bool.false_or, Bool.true_or, Bool.not_true, Bool.not_false, Bool.true_and, Bool.false_and, Bool.and_true, Bool.or_false, Bool.or_true, Bool.false_eq_true, o_add, o_sub, c_eqI, c_neI, c_lt, c_le, c_gt, c_ge, c_is, c_isnot, b_lenL, b_lenT, b_int, b_tupL, b_tupT, b_lstL, b_lstT, i_sL, i_sT, i_eL, i_eT, slT, slLs, sl1, isiD, tyD, el, b_sorted hl] at e ⊢
  rw [e]
  simp only [exs, ex, ev, evs, rb_ok, rb_exc, ro_ok, ro_exc, ob_nx, ob_rt, ob_exc, oo_some, rs_some, an_nx, an_rt, an_exc, bi_some, bi_some', FD.start, List.map_cons, List.map_nil, List.length_cons, List.length_nil, List.cons_append, List.nil_append, List.replicate, List.getElem?_cons_zero, List.getElem?_cons_succ, List.set_cons_zero, List.set_cons_succ, asg, asgs, asgN, asgNs, T.names, T.namess, wipeE, frzE, Option.map_some, if_true, if_false, reduceCtorEq, Nat.zero_add, Nat.reduceAdd, Nat.reduceSub, Nat.reduceLT, Nat.reduceLeDiff, E.isNon, D.isI, Bool.false_or, Bool.true_or, Bool.not_true, Bool.not_false, Bool.true_and, Bool.false_and, Bool.and_true, Bool.or_false, Bool.or_true, Bool.false_eq_true, o_add, o_sub, c_eqI, c_neI, c_lt, c_le, c_gt, c_ge, c_is, c_isnot, b_lenL, b_lenT, b_int, b_tupL, b_tupT, b_lstL, b_lstT, i_sL, i_sT, i_eL, i_eT, slT, slLs, sl1, isiD, tyD]
end
end Mini
end
section
set_option Elab.async false
set_option linter.all false
set_option maxRecDepth 100000
set_option maxHeartbeats 2000000
/-! # what the law's own functions tell: good keys and locks, all keys -/
namespace Mini
open PySem Mini.P
abbrev mkT (p d m : Int) : D := .tup [.int p, .int d, .int m]
theorem filter_all {p : D → Bool} {l : List D} : (l.filter fun x => !p x).isEmpty = l.all p := by
  rw [Bool.eq_iff_iff, List.isEmpty_iff, List.filter_eq_nil_iff, List.all_eq_true]
  simp
theorem filter_allI {α : Type} {p : α → Bool} {l : List α} : (l.filter fun x => !p x).isEmpty = l.all p := by
  rw [Bool.eq_iff_iff, List.isEmpty_iff, List.filter_eq_nil_iff, List.all_eq_true]
  simp
/-- a list of comparable things, compared to the empty one -/
theorem c_eqE' {l : List D} (h : D.plains l = true) : opC .eq (.lst l) (.lst []) = some l.isEmpty := by
  show eqD _ _ = _
  have hm : min (D.lst l).depth (D.lst []).depth ≤ 60 := Nat.le_trans (Nat.min_le_right _ _) (by decide)
  rw [eqD_eq (by simpa [D.plain] using h) rfl hm]
  cases l <;> rfl
theorem c_neE' {l : List D} (h : D.plains l = true) : opC .ne (.lst l) (.lst []) = some (!l.isEmpty) := by
  show (eqD _ _).map _ = _
  rw [show eqD (.lst l) (.lst []) = some l.isEmpty from c_eqE' h]
  rfl
theorem plains_mem' : ∀ {l : List D}, D.plains l = true → ∀ d ∈ l, d.plain = true
  | d :: ds, h, e, he => by
    have h' : d.plain = true ∧ D.plains ds = true := by simpa [D.plains] using h
    rcases List.mem_cons.mp he with rfl | he
    · exact h'.1
    · exact plains_mem' h'.2 e he
theorem plains_of : ∀ {l : List D}, (∀ d ∈ l, d.plain = true) → D.plains l = true
  | [], _ => rfl
  | d :: ds, h => by
    simp only [D.plains, Bool.and_eq_true]
    exact ⟨h d List.mem_cons_self, plains_of fun e he => h e (List.mem_cons_of_mem _ he)⟩
section
variable {P : Prog} {I : Ix} {w n : Nat} {st : Store}
theorem s_number (h26 : P.defs (I.fn 26) = some (d__law_number I)) (h : 1 ≤ n) {d : D} (hd : d.gd = true) {m : Int} : (callsN P w n).call (I.fn 26) [d, .int m] st = .ok (.bl (d.wi 0 (m - 1))) st := by
  obtain ⟨k, rfl⟩ := lev h
  rw [call_at h26 rfl]
  simp only [d__law_number, exs, ex, ev, evs, rb_ok, rb_exc, ro_ok, ro_exc, ob_nx, ob_rt, ob_exc, oo_some, rs_some, an_nx, an_rt, an_exc, bi_some, bi_some', FD.start, List.map_cons, List.map_nil, List.length_cons, List.length_nil, List.cons_append, List.nil_append, List.replicate, List.getElem?_cons_zero, List.getElem?_cons_succ, List.set_cons_zero, List.set_cons_succ, asg, asgs, asgN, asgNs, T.names, T.namess, wipeE, frzE, Option.map_some, if_true, if_false, reduceCtorEq, Nat.zero_add, Nat.reduceAdd, Nat.reduceSub, Nat.reduceLT, Nat.reduceLeDiff, E.isNon, D.isI, Bool.false_or, Bool.true_or, Bool.not_true, Bool.not_false, Bool.true_and, Bool.false_and, Bool.and_true, Bool.or_false, Bool.or_true, Bool.false_eq_true, o_add, o_sub, c_eqI, c_neI, c_lt, c_le, c_gt, c_ge, c_is, c_isnot, b_lenL, b_lenT, b_int, b_tupL, b_tupT, b_lstL, b_lstT, i_sL, i_sT, i_eL, i_eT, slT, slLs, sl1, isiD, tyD, shw_gd hd]
  cases d with
  | int i =>
    simp only [exs, ex, ev, evs, rb_ok, rb_exc, ro_ok, ro_exc, ob_nx, ob_rt, ob_exc, oo_some, rs_some, an_nx, an_rt, an_exc, bi_some, bi_some', FD.start, List.map_cons, List.map_nil, List.length_cons, List.length_nil, List.cons_append, List.nil_append, List.replicate, List.getElem?_cons_zero, List.getElem?_cons_succ, List.set_cons_zero, List.set_cons_succ, asg, asgs, asgN, asgNs, T.names, T.namess, wipeE, frzE, Option.map_some, if_true, if_false, reduceCtorEq, Nat.zero_add, Nat.reduceAdd, Nat.reduceSub, Nat.reduceLT, Nat.reduceLeDiff, E.isNon, D.isI, Bool.false_or, Bool.true_or, Bool.not_true, Bool.not_false, Bool.true_and, Bool.false_and, Bool.and_true, Bool.or_false, Bool.or_true, Bool.false_eq_true, o_add, o_sub, c_eqI, c_neI, c_lt, c_le, c_gt, c_ge, c_is, c_isnot, b_lenL, b_lenT, b_int, b_tupL, b_tupT, b_lstL, b_lstT, i_sL, i_sT, i_eL, i_eT, slT, slLs, sl1, isiD, tyD, D.wi]
    by_cases c : 0 ≤ i
    · simp only [c, decide_true, exs, ex, ev, evs, rb_ok, rb_exc, ro_ok, ro_exc, ob_nx, ob_rt, ob_exc, oo_some, rs_some, an_nx, an_rt, an_exc, bi_some, bi_some', FD.start, List.map_cons, List.map_nil, List.length_cons, List.length_nil, List.cons_append, List.nil_append, List.replicate, List.getElem?_cons_zero, List.getElem?_cons_succ, List.set_cons_zero, List.set_cons_succ, asg, asgs, asgN, asgNs, T.names, T.namess, wipeE, frzE, Option.map_some, if_true, if_false, reduceCtorEq, Nat.zero_add, Nat.reduceAdd, Nat.reduceSub, Nat.reduceLT, Nat.reduceLeDiff, E.isNon, D.isI, Bool.false_or, Bool.true_or, Bool.not_true, Bool.not_false, Bool.true_and, Bool.false_and, Bool.and_true, Bool.or_false, Bool.or_true, Bool.false_eq_true, o_add, o_sub, c_eqI, c_neI, c_lt, c_le, c_gt, c_ge, c_is, c_isnot, b_lenL, b_lenT, b_int, b_tupL, b_tupT, b_lstL, b_lstT, i_sL, i_sT, i_eL, i_eT, slT, slLs, sl1, isiD, tyD]
      have : decide (i ≤ m - 1) = decide (i < m) := by
        rw [decide_eq_decide]
        omega
      rw [this]
    · simp only [c, decide_false, exs, ex, ev, evs, rb_ok, rb_exc, ro_ok, ro_exc, ob_nx, ob_rt, ob_exc, oo_some, rs_some, an_nx, an_rt, an_exc, bi_some, bi_some', FD.start, List.map_cons, List.map_nil, List.length_cons, List.length_nil, List.cons_append, List.nil_append, List.replicate, List.getElem?_cons_zero, List.getElem?_cons_succ, List.set_cons_zero, List.set_cons_succ, asg, asgs, asgN, asgNs, T.names, T.namess, wipeE, frzE, Option.map_some, if_true, if_false, reduceCtorEq, Nat.zero_add, Nat.reduceAdd, Nat.reduceSub, Nat.reduceLT, Nat.reduceLeDiff, E.isNon, D.isI, Bool.false_or, Bool.true_or, Bool.not_true, Bool.not_false, Bool.true_and, Bool.false_and, Bool.and_true, Bool.or_false, Bool.or_true, Bool.false_eq_true, o_add, o_sub, c_eqI, c_neI, c_lt, c_le, c_gt, c_ge, c_is, c_isnot, b_lenL, b_lenT, b_int, b_tupL, b_tupT, b_lstL, b_lstT, i_sL, i_sT, i_eL, i_eT, slT, slLs, sl1, isiD, tyD]
  | _ => first | (simp only [exs, ex, ev, evs, rb_ok, rb_exc, ro_ok, ro_exc, ob_nx, ob_rt, ob_exc, oo_some, rs_some, an_nx, an_rt, an_exc, bi_some, bi_some', FD.start, List.map_cons, List.map_nil, List.length_cons, List.length_nil, List.cons_append, List.nil_append, List.replicate, List.getElem?_cons_zero, List.getElem?_cons_succ, List.set_cons_zero, List.set_cons_succ, asg, asgs, asgN, asgNs, T.names, T.namess, wipeE, frzE, Option.map_some, if_true, if_false, reduceCtorEq, Nat.zero_add, Nat.reduceAdd, Nat.reduceSub, Nat.reduceLT, Nat.reduceLeDiff, E.isNon, D.isI, Bool.false_or, Bool.true_or, Bool.not_true, Bool.not_false, Bool.true_and, Bool.false_and, Bool.and_true, Bool.or_false, Bool.or_true, Bool.false_eq_true, o_add, o_sub, c_eqI, c_neI, c_lt, c_le, c_gt, c_ge, c_is, c_isnot, b_lenL, b_lenT, b_int, b_tupL, b_tupT, b_lstL, b_lstT, i_sL, i_sT, i_eL, i_eT, slT, slLs, sl1, isiD, tyD, D.wi]; done) | cases hd
theorem s_good_key (h26 : P.defs (I.fn 26) = some (d__law_number I)) (h34 : P.defs (I.fn 34) = some (d__law_good_key I)) (h : 2 ≤ n) {p d m : Int} {t : D} (ht : t.deep = true) (hp : t.plain = true) (hl : t.items.length ≤ 1000000) :
    (callsN P w n).call (I.fn 34) [mkT p d m, t] st = .ok (.bl (keyB p d t)) st := by
  obtain ⟨k, rfl⟩ := lev h
  rw [call_at h34 rfl]
  simp only [d__law_good_key, exs, ex, ev, evs, rb_ok, rb_exc, ro_ok, ro_exc, ob_nx, ob_rt, ob_exc, oo_some, rs_some, an_nx, an_rt, an_exc, bi_some, bi_some', FD.start, List.map_cons, List.map_nil, List.length_cons, List.length_nil, List.cons_append, List.nil_append, List.replicate, List.getElem?_cons_zero, List.getElem?_cons_succ, List.set_cons_zero, List.set_cons_succ, asg, asgs, asgN, asgNs, T.names, T.namess, wipeE, frzE, Option.map_some, if_true, if_false, reduceCtorEq, Nat.zero_add, Nat.reduceAdd, Nat.reduceSub, Nat.reduceLT, Nat.reduceLeDiff, E.isNon, D.isI, Bool.false_or, Bool.true_or, Bool.not_true, Bool.not_false, Bool.true_and, Bool.false_and, Bool.and_true, Bool.or_false, Bool.or_true, Bool.false_eq_true, o_add, o_sub, c_eqI, c_neI, c_lt, c_le, c_gt, c_ge, c_is, c_isnot, b_lenL, b_lenT, b_int, b_tupL, b_tupT, b_lstL, b_lstT, i_sL, i_sT, i_eL, i_eT, slT, slLs, sl1, isiD, tyD, shw_gd (deep_gd ht), at30, at31]
  cases t with
  | tup l =>
    have hm := deeps_mem (l := l) (by simpa [D.deep] using ht)
    have hpl : D.plains l = true := by simpa [D.plain] using hp
    have hl : l.length ≤ maxLen := hl
    cases e : ((l.length : Int) == p) with
    | false => simp only [exs, ex, ev, evs, rb_ok, rb_exc, ro_ok, ro_exc, ob_nx, ob_rt, ob_exc, oo_some, rs_some, an_nx, an_rt, an_exc, bi_some, bi_some', FD.start, List.map_cons, List.map_nil, List.length_cons, List.length_nil, List.cons_append, List.nil_append, List.replicate, List.getElem?_cons_zero, List.getElem?_cons_succ, List.set_cons_zero, List.set_cons_succ, asg, asgs, asgN, asgNs, T.names, T.namess, wipeE, frzE, Option.map_some, if_true, if_false, reduceCtorEq, Nat.zero_add, Nat.reduceAdd, Nat.reduceSub, Nat.reduceLT, Nat.reduceLeDiff, E.isNon, D.isI, Bool.false_or, Bool.true_or, Bool.not_true, Bool.not_false, Bool.true_and, Bool.false_and, Bool.and_true, Bool.or_false, Bool.or_true, Bool.false_eq_true, o_add, o_sub, c_eqI, c_neI, c_lt, c_le, c_gt, c_ge, c_is, c_isnot, b_lenL, b_lenT, b_int, b_tupL, b_tupT, b_lstL, b_lstT, i_sL, i_sT, i_eL, i_eT, slT, slLs, sl1, isiD, tyD, keyB, e]
    | true =>
      simp only [exs, ex, ev, evs, rb_ok, rb_exc, ro_ok, ro_exc, ob_nx, ob_rt, ob_exc, oo_some, rs_some, an_nx, an_rt, an_exc, bi_some, bi_some', FD.start, List.map_cons, List.map_nil, List.length_cons, List.length_nil, List.cons_append, List.nil_append, List.replicate, List.getElem?_cons_zero, List.getElem?_cons_succ, List.set_cons_zero, List.set_cons_succ, asg, asgs, asgN, asgNs, T.names, T.namess, wipeE, frzE, Option.map_some, if_true, if_false, reduceCtorEq, Nat.zero_add, Nat.reduceAdd, Nat.reduceSub, Nat.reduceLT, Nat.reduceLeDiff, E.isNon, D.isI, Bool.false_or, Bool.true_or, Bool.not_true, Bool.not_false, Bool.true_and, Bool.false_and, Bool.and_true, Bool.or_false, Bool.or_true, Bool.false_eq_true, o_add, o_sub, c_eqI, c_neI, c_lt, c_le, c_gt, c_ge, c_is, c_isnot, b_lenL, b_lenT, b_int, b_tupL, b_tupT, b_lstL, b_lstT, i_sL, i_sT, i_eL, i_eT, slT, slLs, sl1, isiD, tyD, keyB, e]
      rw [compL_filter (p := fun t => !t.wi 0 (d - 1)) fun t hd => by
        simp only [exs, ex, ev, evs, rb_ok, rb_exc, ro_ok, ro_exc, ob_nx, ob_rt, ob_exc, oo_some, rs_some, an_nx, an_rt, an_exc, bi_some, bi_some', FD.start, List.map_cons, List.map_nil, List.length_cons, List.length_nil, List.cons_append, List.nil_append, List.replicate, List.getElem?_cons_zero, List.getElem?_cons_succ, List.set_cons_zero, List.set_cons_succ, asg, asgs, asgN, asgNs, T.names, T.namess, wipeE, frzE, Option.map_some, if_true, if_false, reduceCtorEq, Nat.zero_add, Nat.reduceAdd, Nat.reduceSub, Nat.reduceLT, Nat.reduceLeDiff, E.isNon, D.isI, Bool.false_or, Bool.true_or, Bool.not_true, Bool.not_false, Bool.true_and, Bool.false_and, Bool.and_true, Bool.or_false, Bool.or_true, Bool.false_eq_true, o_add, o_sub, c_eqI, c_neI, c_lt, c_le, c_gt, c_ge, c_is, c_isnot, b_lenL, b_lenT, b_int, b_tupL, b_tupT, b_lstL, b_lstT, i_sL, i_sT, i_eL, i_eT, slT, slLs, sl1, isiD, tyD, at31, s_number h26 (Nat.le_add_left 1 k) (deep_gd (hm t hd))]
        cases t.wi 0 (d - 1) <;> simp only [exs, ex, ev, evs, rb_ok, rb_exc, ro_ok, ro_exc, ob_nx, ob_rt, ob_exc, oo_some, rs_some, an_nx, an_rt, an_exc, bi_some, bi_some', FD.start, List.map_cons, List.map_nil, List.length_cons, List.length_nil, List.cons_append, List.nil_append, List.replicate, List.getElem?_cons_zero, List.getElem?_cons_succ, List.set_cons_zero, List.set_cons_succ, asg, asgs, asgN, asgNs, T.names, T.namess, wipeE, frzE, Option.map_some, if_true, if_false, reduceCtorEq, Nat.zero_add, Nat.reduceAdd, Nat.reduceSub, Nat.reduceLT, Nat.reduceLeDiff, E.isNon, D.isI, Bool.false_or, Bool.true_or, Bool.not_true, Bool.not_false, Bool.true_and, Bool.false_and, Bool.and_true, Bool.or_false, Bool.or_true, Bool.false_eq_true, o_add, o_sub, c_eqI, c_neI, c_lt, c_le, c_gt, c_ge, c_is, c_isnot, b_lenL, b_lenT, b_int, b_tupL, b_tupT, b_lstL, b_lstT, i_sL, i_sT, i_eL, i_eT, slT, slLs, sl1, isiD, tyD]]
      have hz : (l.filter fun t => !t.wi 0 (d - 1)).length ≤ maxLen := Nat.le_trans (List.length_filter_le _ _) hl
      simp only [exs, ex, ev, evs, rb_ok, rb_exc, ro_ok, ro_exc, ob_nx, ob_rt, ob_exc, oo_some, rs_some, an_nx, an_rt, an_exc, bi_some, bi_some', FD.start, List.map_cons, List.map_nil, List.length_cons, List.length_nil, List.cons_append, List.nil_append, List.replicate, List.getElem?_cons_zero, List.getElem?_cons_succ, List.set_cons_zero, List.set_cons_succ, asg, asgs, asgN, asgNs, T.names, T.namess, wipeE, frzE, Option.map_some, if_true, if_false, reduceCtorEq, Nat.zero_add, Nat.reduceAdd, Nat.reduceSub, Nat.reduceLT, Nat.reduceLeDiff, E.isNon, D.isI, Bool.false_or, Bool.true_or, Bool.not_true, Bool.not_false, Bool.true_and, Bool.false_and, Bool.and_true, Bool.or_false, Bool.or_true, Bool.false_eq_true, o_add, o_sub, c_eqI, c_neI, c_lt, c_le, c_gt, c_ge, c_is, c_isnot, b_lenL, b_lenT, b_int, b_tupL, b_tupT, b_lstL, b_lstT, i_sL, i_sT, i_eL, i_eT, slT, slLs, sl1, isiD, tyD, hz, c_eqE' (plains_of fun x hx => plains_mem' hpl x ((List.mem_filter.mp hx).1)), filter_all]
  | _ => first | (simp [D.deep] at ht; done) | simp only [exs, ex, ev, evs, rb_ok, rb_exc, ro_ok, ro_exc, ob_nx, ob_rt, ob_exc, oo_some, rs_some, an_nx, an_rt, an_exc, bi_some, bi_some', FD.start, List.map_cons, List.map_nil, List.length_cons, List.length_nil, List.cons_append, List.nil_append, List.replicate, List.getElem?_cons_zero, List.getElem?_cons_succ, List.set_cons_zero, List.set_cons_succ, asg, asgs, asgN, asgNs, T.names, T.namess, wipeE, frzE, Option.map_some, if_true, if_false, reduceCtorEq, Nat.zero_add, Nat.reduceAdd, Nat.reduceSub, Nat.reduceLT, Nat.reduceLeDiff, E.isNon, D.isI, Bool.false_or, Bool.true_or, Bool.not_true, Bool.not_false, Bool.true_and, Bool.false_and, Bool.and_true, Bool.or_false, Bool.or_true, Bool.false_eq_true, o_add, o_sub, c_eqI, c_neI, c_lt, c_le, c_gt, c_ge, c_is, c_isnot, b_lenL, b_lenT, b_int, b_tupL, b_tupT, b_lstL, b_lstT, i_sL, i_sT, i_eL, i_eT, slT, slLs, sl1, isiD, tyD, keyB]
/-- all ints within bounds -/
theorem wi_ints {hi : Int} : ∀ {l : List D}, l.all (D.wi 0 hi) = true → ∃ is : List Int, l = is.map .int
  | [], _ => ⟨[], rfl⟩
  | d :: r, h => by
    simp only [List.all_cons, Bool.and_eq_true] at h
    obtain ⟨is, rfl⟩ := wi_ints h.2
    cases d with
    | int i => exact ⟨i :: is, rfl⟩
    | _ => simp [D.wi] at h
theorem s_good_lock (h24 : P.defs (I.fn 24) = some (d__law_unlike I)) (h26 : P.defs (I.fn 26) = some (d__law_number I)) (h33 : P.defs (I.fn 33) = some (d__law_good_lock I)) (h : 2 ≤ n) {p d m : Int} {t : D} (ht : t.deep = true) (hp : t.plain = true) (hl : t.items.length ≤ 1000000) (he : ∀ e ∈ t.items, e.items.length ≤ 1000000) :
    (callsN P w n).call (I.fn 33) [mkT p d m, t] st = .ok (.bl (lockB p d m t)) st := by
  obtain ⟨k, rfl⟩ := lev h
  rw [call_at h33 rfl]
  simp only [d__law_good_lock, exs, ex, ev, evs, rb_ok, rb_exc, ro_ok, ro_exc, ob_nx, ob_rt, ob_exc, oo_some, rs_some, an_nx, an_rt, an_exc, bi_some, bi_some', FD.start, List.map_cons, List.map_nil, List.length_cons, List.length_nil, List.cons_append, List.nil_append, List.replicate, List.getElem?_cons_zero, List.getElem?_cons_succ, List.set_cons_zero, List.set_cons_succ, asg, asgs, asgN, asgNs, T.names, T.namess, wipeE, frzE, Option.map_some, if_true, if_false, reduceCtorEq, Nat.zero_add, Nat.reduceAdd, Nat.reduceSub, Nat.reduceLT, Nat.reduceLeDiff, E.isNon, D.isI, Bool.false_or, Bool.true_or, Bool.not_true, Bool.not_false, Bool.true_and, Bool.false_and, Bool.and_true, Bool.or_false, Bool.or_true, Bool.false_eq_true, o_add, o_sub, c_eqI, c_neI, c_lt, c_le, c_gt, c_ge, c_is, c_isnot, b_lenL, b_lenT, b_int, b_tupL, b_tupT, b_lstL, b_lstT, i_sL, i_sT, i_eL, i_eT, slT, slLs, sl1, isiD, tyD, shw_gd (deep_gd ht), at30, at31, at32]
  cases t with
  | tup l =>
    have hm := deeps_mem (l := l) (by simpa [D.deep] using ht)
    have hpl : D.plains l = true := by simpa [D.plain] using hp
    cases e : ((l.length : Int) == p) with
    | false => simp only [exs, ex, ev, evs, rb_ok, rb_exc, ro_ok, ro_exc, ob_nx, ob_rt, ob_exc, oo_some, rs_some, an_nx, an_rt, an_exc, bi_some, bi_some', FD.start, List.map_cons, List.map_nil, List.length_cons, List.length_nil, List.cons_append, List.nil_append, List.replicate, List.getElem?_cons_zero, List.getElem?_cons_succ, List.set_cons_zero, List.set_cons_succ, asg, asgs, asgN, asgNs, T.names, T.namess, wipeE, frzE, Option.map_some, if_true, if_false, reduceCtorEq, Nat.zero_add, Nat.reduceAdd, Nat.reduceSub, Nat.reduceLT, Nat.reduceLeDiff, E.isNon, D.isI, Bool.false_or, Bool.true_or, Bool.not_true, Bool.not_false, Bool.true_and, Bool.false_and, Bool.and_true, Bool.or_false, Bool.or_true, Bool.false_eq_true, o_add, o_sub, c_eqI, c_neI, c_lt, c_le, c_gt, c_ge, c_is, c_isnot, b_lenL, b_lenT, b_int, b_tupL, b_tupT, b_lstL, b_lstT, i_sL, i_sT, i_eL, i_eT, slT, slLs, sl1, isiD, tyD, lockB, e]
    | true =>
      simp only [exs, ex, ev, evs, rb_ok, rb_exc, ro_ok, ro_exc, ob_nx, ob_rt, ob_exc, oo_some, rs_some, an_nx, an_rt, an_exc, bi_some, bi_some', FD.start, List.map_cons, List.map_nil, List.length_cons, List.length_nil, List.cons_append, List.nil_append, List.replicate, List.getElem?_cons_zero, List.getElem?_cons_succ, List.set_cons_zero, List.set_cons_succ, asg, asgs, asgN, asgNs, T.names, T.namess, wipeE, frzE, Option.map_some, if_true, if_false, reduceCtorEq, Nat.zero_add, Nat.reduceAdd, Nat.reduceSub, Nat.reduceLT, Nat.reduceLeDiff, E.isNon, D.isI, Bool.false_or, Bool.true_or, Bool.not_true, Bool.not_false, Bool.true_and, Bool.false_and, Bool.and_true, Bool.or_false, Bool.or_true, Bool.false_eq_true, o_add, o_sub, c_eqI, c_neI, c_lt, c_le, c_gt, c_ge, c_is, c_isnot, b_lenL, b_lenT, b_int, b_tupL, b_tupT, b_lstL, b_lstT, i_sL, i_sT, i_eL, i_eT, slT, slLs, sl1, isiD, tyD, lockB, e]
      have loop := forL_stop (st := st) (turn := fun d ρ st => Out.ofOpt (asgN (.nm 2) d ρ) fun ρ1 => exs P (callsN P w (k + 1)) w [.if_ (.or (.not (.isi (.var 2) [.tuple])) (.cmp .gt (.bi .len [.var 2]) (.ix (.var 0) (.k (.int 2))))) [.ret (.k (.bl false))] [], .if_ (.or (.cmp .ne (.comp (.var 3) (.nm 3) .seq [.var 2] (.not (.call (I.fn 26) [.var 3, .ix (.var 0) (.k (.int 1))]))) (.lst [])) (.cmp .ne (.bi .list [.var 2]) (.call (I.fn 24) [.var 2]))) [.ret (.k (.bl false))] []] ρ1 st)
        (fun ρ => ∃ b c, ρ = [.val (mkT p d m), .val (.tup l), b, c]) (fun t => !(setB (d - 1) t && decide ((t.items.length : Int) ≤ m))) (fun _ => .rt (.bl false) st) (fun _ _ => rfl) (items := l) (ρ := [.val (mkT p d m), .val (.tup l), .no, .no]) (fun t ht ρ ⟨b, c, hρ⟩ => by
          subst hρ
          have hg := deep_gd (hm t ht)
          simp only [exs, ex, ev, evs, rb_ok, rb_exc, ro_ok, ro_exc, ob_nx, ob_rt, ob_exc, oo_some, rs_some, an_nx, an_rt, an_exc, bi_some, bi_some', FD.start, List.map_cons, List.map_nil, List.length_cons, List.length_nil, List.cons_append, List.nil_append, List.replicate, List.getElem?_cons_zero, List.getElem?_cons_succ, List.set_cons_zero, List.set_cons_succ, asg, asgs, asgN, asgNs, T.names, T.namess, wipeE, frzE, Option.map_some, if_true, if_false, reduceCtorEq, Nat.zero_add, Nat.reduceAdd, Nat.reduceSub, Nat.reduceLT, Nat.reduceLeDiff, E.isNon, D.isI, Bool.false_or, Bool.true_or, Bool.not_true, Bool.not_false, Bool.true_and, Bool.false_and, Bool.and_true, Bool.or_false, Bool.or_true, Bool.false_eq_true, o_add, o_sub, c_eqI, c_neI, c_lt, c_le, c_gt, c_ge, c_is, c_isnot, b_lenL, b_lenT, b_int, b_tupL, b_tupT, b_lstL, b_lstT, i_sL, i_sT, i_eL, i_eT, slT, slLs, sl1, isiD, tyD, shw_gd hg, at32, at31]
          cases t with
          | tup l' =>
            have hl' : l'.length ≤ maxLen := he _ ht
            have hm' := deeps_mem (l := l') (by simpa [D.deep] using hm _ ht)
            have hpl' : D.plains l' = true := by simpa [D.plain] using plains_mem' hpl _ ht
            simp only [exs, ex, ev, evs, rb_ok, rb_exc, ro_ok, ro_exc, ob_nx, ob_rt, ob_exc, oo_some, rs_some, an_nx, an_rt, an_exc, bi_some, bi_some', FD.start, List.map_cons, List.map_nil, List.length_cons, List.length_nil, List.cons_append, List.nil_append, List.replicate, List.getElem?_cons_zero, List.getElem?_cons_succ, List.set_cons_zero, List.set_cons_succ, asg, asgs, asgN, asgNs, T.names, T.namess, wipeE, frzE, Option.map_some, if_true, if_false, reduceCtorEq, Nat.zero_add, Nat.reduceAdd, Nat.reduceSub, Nat.reduceLT, Nat.reduceLeDiff, E.isNon, D.isI, Bool.false_or, Bool.true_or, Bool.not_true, Bool.not_false, Bool.true_and, Bool.false_and, Bool.and_true, Bool.or_false, Bool.or_true, Bool.false_eq_true, o_add, o_sub, c_eqI, c_neI, c_lt, c_le, c_gt, c_ge, c_is, c_isnot, b_lenL, b_lenT, b_int, b_tupL, b_tupT, b_lstL, b_lstT, i_sL, i_sT, i_eL, i_eT, slT, slLs, sl1, isiD, tyD, D.items, setB, c_gt]
            by_cases c1 : m < (l'.length : Int)
            · have c1' : ¬ ((l'.length : Int) ≤ m) := by omega
              simp only [c1, c1', decide_true, decide_false, exs, ex, ev, evs, rb_ok, rb_exc, ro_ok, ro_exc, ob_nx, ob_rt, ob_exc, oo_some, rs_some, an_nx, an_rt, an_exc, bi_some, bi_some', FD.start, List.map_cons, List.map_nil, List.length_cons, List.length_nil, List.cons_append, List.nil_append, List.replicate, List.getElem?_cons_zero, List.getElem?_cons_succ, List.set_cons_zero, List.set_cons_succ, asg, asgs, asgN, asgNs, T.names, T.namess, wipeE, frzE, Option.map_some, if_true, if_false, reduceCtorEq, Nat.zero_add, Nat.reduceAdd, Nat.reduceSub, Nat.reduceLT, Nat.reduceLeDiff, E.isNon, D.isI, Bool.false_or, Bool.true_or, Bool.not_true, Bool.not_false, Bool.true_and, Bool.false_and, Bool.and_true, Bool.or_false, Bool.or_true, Bool.false_eq_true, o_add, o_sub, c_eqI, c_neI, c_lt, c_le, c_gt, c_ge, c_is, c_isnot, b_lenL, b_lenT, b_int, b_tupL, b_tupT, b_lstL, b_lstT, i_sL, i_sT, i_eL, i_eT, slT, slLs, sl1, isiD, tyD, Bool.and_false]
            · have c1' : ((l'.length : Int) ≤ m) := by omega
              simp only [c1, c1', decide_true, decide_false, exs, ex, ev, evs, rb_ok, rb_exc, ro_ok, ro_exc, ob_nx, ob_rt, ob_exc, oo_some, rs_some, an_nx, an_rt, an_exc, bi_some, bi_some', FD.start, List.map_cons, List.map_nil, List.length_cons, List.length_nil, List.cons_append, List.nil_append, List.replicate, List.getElem?_cons_zero, List.getElem?_cons_succ, List.set_cons_zero, List.set_cons_succ, asg, asgs, asgN, asgNs, T.names, T.namess, wipeE, frzE, Option.map_some, if_true, if_false, reduceCtorEq, Nat.zero_add, Nat.reduceAdd, Nat.reduceSub, Nat.reduceLT, Nat.reduceLeDiff, E.isNon, D.isI, Bool.false_or, Bool.true_or, Bool.not_true, Bool.not_false, Bool.true_and, Bool.false_and, Bool.and_true, Bool.or_false, Bool.or_true, Bool.false_eq_true, o_add, o_sub, c_eqI, c_neI, c_lt, c_le, c_gt, c_ge, c_is, c_isnot, b_lenL, b_lenT, b_int, b_tupL, b_tupT, b_lstL, b_lstT, i_sL, i_sT, i_eL, i_eT, slT, slLs, sl1, isiD, tyD]
              rw [compL_filter (p := fun t => !t.wi 0 (d - 1)) fun t hd => by
                simp only [exs, ex, ev, evs, rb_ok, rb_exc, ro_ok, ro_exc, ob_nx, ob_rt, ob_exc, oo_some, rs_some, an_nx, an_rt, an_exc, bi_some, bi_some', FD.start, List.map_cons, List.map_nil, List.length_cons, List.length_nil, List.cons_append, List.nil_append, List.replicate, List.getElem?_cons_zero, List.getElem?_cons_succ, List.set_cons_zero, List.set_cons_succ, asg, asgs, asgN, asgNs, T.names, T.namess, wipeE, frzE, Option.map_some, if_true, if_false, reduceCtorEq, Nat.zero_add, Nat.reduceAdd, Nat.reduceSub, Nat.reduceLT, Nat.reduceLeDiff, E.isNon, D.isI, Bool.false_or, Bool.true_or, Bool.not_true, Bool.not_false, Bool.true_and, Bool.false_and, Bool.and_true, Bool.or_false, Bool.or_true, Bool.false_eq_true, o_add, o_sub, c_eqI, c_neI, c_lt, c_le, c_gt, c_ge, c_is, c_isnot, b_lenL, b_lenT, b_int, b_tupL, b_tupT, b_lstL, b_lstT, i_sL, i_sT, i_eL, i_eT, slT, slLs, sl1, isiD, tyD, at31, s_number h26 (Nat.le_add_left 1 k) (deep_gd (hm' t hd))]
                cases t.wi 0 (d - 1) <;> simp only [exs, ex, ev, evs, rb_ok, rb_exc, ro_ok, ro_exc, ob_nx, ob_rt, ob_exc, oo_some, rs_some, an_nx, an_rt, an_exc, bi_some, bi_some', FD.start, List.map_cons, List.map_nil, List.length_cons, List.length_nil, List.cons_append, List.nil_append, List.replicate, List.getElem?_cons_zero, List.getElem?_cons_succ, List.set_cons_zero, List.set_cons_succ, asg, asgs, asgN, asgNs, T.names, T.namess, wipeE, frzE, Option.map_some, if_true, if_false, reduceCtorEq, Nat.zero_add, Nat.reduceAdd, Nat.reduceSub, Nat.reduceLT, Nat.reduceLeDiff, E.isNon, D.isI, Bool.false_or, Bool.true_or, Bool.not_true, Bool.not_false, Bool.true_and, Bool.false_and, Bool.and_true, Bool.or_false, Bool.or_true, Bool.false_eq_true, o_add, o_sub, c_eqI, c_neI, c_lt, c_le, c_gt, c_ge, c_is, c_isnot, b_lenL, b_lenT, b_int, b_tupL, b_tupT, b_lstL, b_lstT, i_sL, i_sT, i_eL, i_eT, slT, slLs, sl1, isiD, tyD]]
              have hz : (l'.filter fun t => !t.wi 0 (d - 1)).length ≤ maxLen := Nat.le_trans (List.length_filter_le _ _) hl'
              simp only [exs, ex, ev, evs, rb_ok, rb_exc, ro_ok, ro_exc, ob_nx, ob_rt, ob_exc, oo_some, rs_some, an_nx, an_rt, an_exc, bi_some, bi_some', FD.start, List.map_cons, List.map_nil, List.length_cons, List.length_nil, List.cons_append, List.nil_append, List.replicate, List.getElem?_cons_zero, List.getElem?_cons_succ, List.set_cons_zero, List.set_cons_succ, asg, asgs, asgN, asgNs, T.names, T.namess, wipeE, frzE, Option.map_some, if_true, if_false, reduceCtorEq, Nat.zero_add, Nat.reduceAdd, Nat.reduceSub, Nat.reduceLT, Nat.reduceLeDiff, E.isNon, D.isI, Bool.false_or, Bool.true_or, Bool.not_true, Bool.not_false, Bool.true_and, Bool.false_and, Bool.and_true, Bool.or_false, Bool.or_true, Bool.false_eq_true, o_add, o_sub, c_eqI, c_neI, c_lt, c_le, c_gt, c_ge, c_is, c_isnot, b_lenL, b_lenT, b_int, b_tupL, b_tupT, b_lstL, b_lstT, i_sL, i_sT, i_eL, i_eT, slT, slLs, sl1, isiD, tyD, hz, c_neE' (plains_of fun x hx => plains_mem' hpl' x ((List.mem_filter.mp hx).1)), filter_all]
              cases e2 : l'.all (D.wi 0 (d - 1)) with
              | false => simp only [exs, ex, ev, evs, rb_ok, rb_exc, ro_ok, ro_exc, ob_nx, ob_rt, ob_exc, oo_some, rs_some, an_nx, an_rt, an_exc, bi_some, bi_some', FD.start, List.map_cons, List.map_nil, List.length_cons, List.length_nil, List.cons_append, List.nil_append, List.replicate, List.getElem?_cons_zero, List.getElem?_cons_succ, List.set_cons_zero, List.set_cons_succ, asg, asgs, asgN, asgNs, T.names, T.namess, wipeE, frzE, Option.map_some, if_true, if_false, reduceCtorEq, Nat.zero_add, Nat.reduceAdd, Nat.reduceSub, Nat.reduceLT, Nat.reduceLeDiff, E.isNon, D.isI, Bool.false_or, Bool.true_or, Bool.not_true, Bool.not_false, Bool.true_and, Bool.false_and, Bool.and_true, Bool.or_false, Bool.or_true, Bool.false_eq_true, o_add, o_sub, c_eqI, c_neI, c_lt, c_le, c_gt, c_ge, c_is, c_isnot, b_lenL, b_lenT, b_int, b_tupL, b_tupT, b_lstL, b_lstT, i_sL, i_sT, i_eL, i_eT, slT, slLs, sl1, isiD, tyD]
              | true =>
                obtain ⟨is, rfl⟩ := wi_ints e2
                have hli : is.length ≤ maxLen := by simpa using hl'
                simp only [exs, ex, ev, evs, rb_ok, rb_exc, ro_ok, ro_exc, ob_nx, ob_rt, ob_exc, oo_some, rs_some, an_nx, an_rt, an_exc, bi_some, bi_some', FD.start, List.map_cons, List.map_nil, List.length_cons, List.length_nil, List.cons_append, List.nil_append, List.replicate, List.getElem?_cons_zero, List.getElem?_cons_succ, List.set_cons_zero, List.set_cons_succ, asg, asgs, asgN, asgNs, T.names, T.namess, wipeE, frzE, Option.map_some, if_true, if_false, reduceCtorEq, Nat.zero_add, Nat.reduceAdd, Nat.reduceSub, Nat.reduceLT, Nat.reduceLeDiff, E.isNon, D.isI, Bool.false_or, Bool.true_or, Bool.not_true, Bool.not_false, Bool.true_and, Bool.false_and, Bool.and_true, Bool.or_false, Bool.or_true, Bool.false_eq_true, o_add, o_sub, c_eqI, c_neI, c_lt, c_le, c_gt, c_ge, c_is, c_isnot, b_lenL, b_lenT, b_int, b_tupL, b_tupT, b_lstL, b_lstT, i_sL, i_sT, i_eL, i_eT, slT, slLs, sl1, isiD, tyD, s_unlike h24 (Nat.le_add_left 1 k) (.inr rfl) hli, c_neL, sortU_eq]
                cases rising (is.map .int) <;> simp [exs, ex, ev, evs, rb_ok, rb_exc, ro_ok, ro_exc, ob_nx, ob_rt, ob_exc, oo_some, rs_some, an_nx, an_rt, an_exc, bi_some, bi_some', FD.start, List.map_cons, List.map_nil, List.length_cons, List.length_nil, List.cons_append, List.nil_append, List.replicate, List.getElem?_cons_zero, List.getElem?_cons_succ, List.set_cons_zero, List.set_cons_succ, asg, asgs, asgN, asgNs, T.names, T.namess, wipeE, frzE, Option.map_some, if_true, if_false, reduceCtorEq, Nat.zero_add, Nat.reduceAdd, Nat.reduceSub, Nat.reduceLT, Nat.reduceLeDiff, E.isNon, D.isI, Bool.false_or, Bool.true_or, Bool.not_true, Bool.not_false, Bool.true_and, Bool.false_and, Bool.and_true, Bool.or_false, Bool.or_true, Bool.false_eq_true, o_add, o_sub, c_eqI, c_neI, c_lt, c_le, c_gt, c_ge, c_is, c_isnot, b_lenL, b_lenT, b_int, b_tupL, b_tupT, b_lstL, b_lstT, i_sL, i_sT, i_eL, i_eT, slT, slLs, sl1, isiD, tyD]
          | _ => first | (cases hg; done) | simp [exs, ex, ev, evs, rb_ok, rb_exc, ro_ok, ro_exc, ob_nx, ob_rt, ob_exc, oo_some, rs_some, an_nx, an_rt, an_exc, bi_some, bi_some', FD.start, List.map_cons, List.map_nil, List.length_cons, List.length_nil, List.cons_append, List.nil_append, List.replicate, List.getElem?_cons_zero, List.getElem?_cons_succ, List.set_cons_zero, List.set_cons_succ, asg, asgs, asgN, asgNs, T.names, T.namess, wipeE, frzE, Option.map_some, if_true, if_false, reduceCtorEq, Nat.zero_add, Nat.reduceAdd, Nat.reduceSub, Nat.reduceLT, Nat.reduceLeDiff, E.isNon, D.isI, Bool.false_or, Bool.true_or, Bool.not_true, Bool.not_false, Bool.true_and, Bool.false_and, Bool.and_true, Bool.or_false, Bool.or_true, Bool.false_eq_true, o_add, o_sub, c_eqI, c_neI, c_lt, c_le, c_gt, c_ge, c_is, c_isnot, b_lenL, b_lenT, b_int, b_tupL, b_tupT, b_lstL, b_lstT, i_sL, i_sT, i_eL, i_eT, slT, slLs, sl1, isiD, tyD, setB]) ⟨_, _, rfl⟩
      cases e3 : (l.find? fun t => !(setB (d - 1) t && decide ((t.items.length : Int) ≤ m))) with
      | some x =>
        simp only [e3] at loop
        have : (l.all fun e => setB (d - 1) e && decide ((e.items.length : Int) ≤ m)) = false := by
          rw [List.all_eq_false]
          have hx := List.find?_some e3
          exact ⟨x, List.mem_of_find?_eq_some e3, fun z => by rw [z] at hx; cases hx⟩
        simp only [exs, ex, ev, evs, rb_ok, rb_exc, ro_ok, ro_exc, ob_nx, ob_rt, ob_exc, oo_some, rs_some, an_nx, an_rt, an_exc, bi_some, bi_some', FD.start, List.map_cons, List.map_nil, List.length_cons, List.length_nil, List.cons_append, List.nil_append, List.replicate, List.getElem?_cons_zero, List.getElem?_cons_succ, List.set_cons_zero, List.set_cons_succ, asg, asgs, asgN, asgNs, T.names, T.namess, wipeE, frzE, Option.map_some, if_true, if_false, reduceCtorEq, Nat.zero_add, Nat.reduceAdd, Nat.reduceSub, Nat.reduceLT, Nat.reduceLeDiff, E.isNon, D.isI, Bool.false_or, Bool.true_or, Bool.not_true, Bool.not_false, Bool.true_and, Bool.false_and, Bool.and_true, Bool.or_false, Bool.or_true, Bool.false_eq_true, o_add, o_sub, c_eqI, c_neI, c_lt, c_le, c_gt, c_ge, c_is, c_isnot, b_lenL, b_lenT, b_int, b_tupL, b_tupT, b_lstL, b_lstT, i_sL, i_sT, i_eL, i_eT, slT, slLs, sl1, isiD, tyD] at loop ⊢
        rw [loop, this]
        simp only [exs, ex, ev, evs, rb_ok, rb_exc, ro_ok, ro_exc, ob_nx, ob_rt, ob_exc, oo_some, rs_some, an_nx, an_rt, an_exc, bi_some, bi_some', FD.start, List.map_cons, List.map_nil, List.length_cons, List.length_nil, List.cons_append, List.nil_append, List.replicate, List.getElem?_cons_zero, List.getElem?_cons_succ, List.set_cons_zero, List.set_cons_succ, asg, asgs, asgN, asgNs, T.names, T.namess, wipeE, frzE, Option.map_some, if_true, if_false, reduceCtorEq, Nat.zero_add, Nat.reduceAdd, Nat.reduceSub, Nat.reduceLT, Nat.reduceLeDiff, E.isNon, D.isI, Bool.false_or, Bool.true_or, Bool.not_true, Bool.not_false, Bool.true_and, Bool.false_and, Bool.and_true, Bool.or_false, Bool.or_true, Bool.false_eq_true, o_add, o_sub, c_eqI, c_neI, c_lt, c_le, c_gt, c_ge, c_is, c_isnot, b_lenL, b_lenT, b_int, b_tupL, b_tupT, b_lstL, b_lstT, i_sL, i_sT, i_eL, i_eT, slT, slLs, sl1, isiD, tyD]
      | none =>
        simp only [e3] at loop
        obtain ⟨ρ', e4, b, c, rfl⟩ := loop
        have : (l.all fun e => setB (d - 1) e && decide ((e.items.length : Int) ≤ m)) = true := by
          rw [List.all_eq_true]
          intro x hx
          have := List.find?_eq_none.mp e3 x hx
          simpa using this
        simp only [exs, ex, ev, evs, rb_ok, rb_exc, ro_ok, ro_exc, ob_nx, ob_rt, ob_exc, oo_some, rs_some, an_nx, an_rt, an_exc, bi_some, bi_some', FD.start, List.map_cons, List.map_nil, List.length_cons, List.length_nil, List.cons_append, List.nil_append, List.replicate, List.getElem?_cons_zero, List.getElem?_cons_succ, List.set_cons_zero, List.set_cons_succ, asg, asgs, asgN, asgNs, T.names, T.namess, wipeE, frzE, Option.map_some, if_true, if_false, reduceCtorEq, Nat.zero_add, Nat.reduceAdd, Nat.reduceSub, Nat.reduceLT, Nat.reduceLeDiff, E.isNon, D.isI, Bool.false_or, Bool.true_or, Bool.not_true, Bool.not_false, Bool.true_and, Bool.false_and, Bool.and_true, Bool.or_false, Bool.or_true, Bool.false_eq_true, o_add, o_sub, c_eqI, c_neI, c_lt, c_le, c_gt, c_ge, c_is, c_isnot, b_lenL, b_lenT, b_int, b_tupL, b_tupT, b_lstL, b_lstT, i_sL, i_sT, i_eL, i_eT, slT, slLs, sl1, isiD, tyD] at e4 ⊢
        rw [e4, this]
        simp only [exs, ex, ev, evs, rb_ok, rb_exc, ro_ok, ro_exc, ob_nx, ob_rt, ob_exc, oo_some, rs_some, an_nx, an_rt, an_exc, bi_some, bi_some', FD.start, List.map_cons, List.map_nil, List.length_cons, List.length_nil, List.cons_append, List.nil_append, List.replicate, List.getElem?_cons_zero, List.getElem?_cons_succ, List.set_cons_zero, List.set_cons_succ, asg, asgs, asgN, asgNs, T.names, T.namess, wipeE, frzE, Option.map_some, if_true, if_false, reduceCtorEq, Nat.zero_add, Nat.reduceAdd, Nat.reduceSub, Nat.reduceLT, Nat.reduceLeDiff, E.isNon, D.isI, Bool.false_or, Bool.true_or, Bool.not_true, Bool.not_false, Bool.true_and, Bool.false_and, Bool.and_true, Bool.or_false, Bool.or_true, Bool.false_eq_true, o_add, o_sub, c_eqI, c_neI, c_lt, c_le, c_gt, c_ge, c_is, c_isnot, b_lenL, b_lenT, b_int, b_tupL, b_tupT, b_lstL, b_lstT, i_sL, i_sT, i_eL, i_eT, slT, slLs, sl1, isiD, tyD]
  | _ => first | (simp [D.deep] at ht; done) | simp only [exs, ex, ev, evs, rb_ok, rb_exc, ro_ok, ro_exc, ob_nx, ob_rt, ob_exc, oo_some, rs_some, an_nx, an_rt, an_exc, bi_some, bi_some', FD.start, List.map_cons, List.map_nil, List.length_cons, List.length_nil, List.cons_append, List.nil_append, List.replicate, List.getElem?_cons_zero, List.getElem?_cons_succ, List.set_cons_zero, List.set_cons_succ, asg, asgs, asgN, asgNs, T.names, T.namess, wipeE, frzE, Option.map_some, if_true, if_false, reduceCtorEq, Nat.zero_add, Nat.reduceAdd, Nat.reduceSub, Nat.reduceLT, Nat.reduceLeDiff, E.isNon, D.isI, Bool.false_or, Bool.true_or, Bool.not_true, Bool.not_false, Bool.true_and, Bool.false_and, Bool.and_true, Bool.or_false, Bool.or_true, Bool.false_eq_true, o_add, o_sub, c_eqI, c_neI, c_lt, c_le, c_gt, c_ge, c_is, c_isnot, b_lenL, b_lenT, b_int, b_tupL, b_tupT, b_lstL, b_lstT, i_sL, i_sT, i_eL, i_eT, slT, slLs, sl1, isiD, tyD, lockB]
end
end Mini
end
section
set_option Elab.async false
set_option linter.all false
set_option maxRecDepth 100000
set_option maxHeartbeats 2000000
/-! # what the law's own functions tell: all keys, fits, least locks, drawn makes and locks -/
namespace Mini
open PySem Mini.P
/-- a drawn make -/
def MkOk (p d m : Nat) : Prop := (p, d) ∈ [(1, 2), (1, 3), (2, 2), (2, 3), (3, 2), (1, 4)] ∧ 1 ≤ m ∧ m ≤ d
theorem keysL_len {d : Nat} : ∀ {k : Nat}, ∀ r ∈ keysL d k, r.length = k ∧ ∀ i ∈ r, 0 ≤ i ∧ i < d
  | 0, r, h => by
    have : r = [] := by simpa [keysL] using h
    subst this
    exact ⟨rfl, fun i h => nomatch h⟩
  | k + 1, r, h => by
    simp only [keysL, List.mem_flatMap, List.mem_map, List.mem_range] at h
    obtain ⟨q, hq, i, hi, rfl⟩ := h
    obtain ⟨h1, h2⟩ := keysL_len q hq
    refine ⟨by simp [h1], fun j hj => ?_⟩
    rcases List.mem_append.mp hj with z | z
    · exact h2 j z
    · simp at z; omega
theorem keysL_size {d : Nat} : ∀ {k : Nat}, (keysL d k).length = d ^ k
  | 0 => rfl
  | k + 1 => by
    simp only [keysL, List.length_flatMap, List.length_map, List.length_range]
    rw [List.map_const', List.sum_replicate_nat, keysL_size (k := k), Nat.pow_succ]
theorem keysL_bound {d p : Nat} (hd : d ≤ 4) (hp : p ≤ 3) : ∀ k, k ≤ p → (keysL d k).length ≤ 1000000 := fun k hk => by
  rw [keysL_size]
  calc d ^ k ≤ 4 ^ k := Nat.pow_le_pow_left hd k
    _ ≤ 4 ^ 3 := Nat.pow_le_pow_right (by decide) (by omega)
    _ ≤ 1000000 := by decide
theorem MkOk.le {p d m : Nat} (h : MkOk p d m) : 1 ≤ p ∧ p ≤ 3 ∧ 2 ≤ d ∧ d ≤ 4 := by
  have := h.1
  simp at this
  omega
theorem keyB_int {p d : Int} {k : List Int} : keyB p d (tI k) = ((k.length : Int) == p && k.all fun i => decide (0 ≤ i) && decide (i ≤ d - 1)) := by
  simp only [keyB, List.length_map, List.all_map]
  rfl
theorem keysL_key {p d : Nat} {k : List Int} (hk : k ∈ keysL d p) (hp : p ≤ 1000000) : gKey p d k := by
  obtain ⟨h1, h2⟩ := keysL_len k hk
  refine ⟨?_, by omega⟩
  rw [keyB_int, h1]
  simp only [beq_self_eq_true, Bool.true_and, List.all_eq_true, Bool.and_eq_true, decide_eq_true_eq]
  exact fun i hi => by have := h2 i hi; omega
theorem lockB_int {p d m : Int} {l : List (List Int)} : lockB p d m (tTt l) = ((l.length : Int) == p && l.all fun e => (e.all fun i => decide (0 ≤ i) && decide (i ≤ d - 1)) && decide (e.Pairwise (· < ·)) && decide ((e.length : Int) ≤ m)) := by
  simp only [lockB, List.length_map, List.all_map]
  congr 1
  congr 1
  funext e
  simp only [Function.comp, setB, List.all_map, rising_int, D.items, List.length_map]
  rfl
section
variable {P : Prog} {I : Ix} {w n : Nat} {st : Store} {ns : List Int}
theorem o_addL' {x y : List D} (h : x.length + y.length ≤ 1000000) : opB .add (.lst x) (.lst y) = some (.lst (x ++ y)) := o_addL h
theorem s_law_keys (h28 : P.defs (I.fn 28) = some (d__law_keys I)) (h : 1 ≤ n) {p d : Nat} {m : Int} (hd : d ≤ 10) (hp : p ≤ 10) (hb : ∀ k, k ≤ p → (keysL d k).length ≤ 1000000) :
    (callsN P w n).call (I.fn 28) [mkT p d m] st = .ok (.lst ((keysL d p).map tI)) st := by
  obtain ⟨k, rfl⟩ := lev h
  rw [call_at h28 rfl]
  simp only [d__law_keys, exs, ex, ev, evs, rb_ok, rb_exc, ro_ok, ro_exc, ob_nx, ob_rt, ob_exc, oo_some, rs_some, an_nx, an_rt, an_exc, bi_some, bi_some', FD.start, List.map_cons, List.map_nil, List.length_cons, List.length_nil, List.cons_append, List.nil_append, List.replicate, List.getElem?_cons_zero, List.getElem?_cons_succ, List.set_cons_zero, List.set_cons_succ, asg, asgs, asgN, asgNs, T.names, T.namess, wipeE, frzE, Option.map_some, if_true, if_false, reduceCtorEq, Nat.zero_add, Nat.reduceAdd, Nat.reduceSub, Nat.reduceLT, Nat.reduceLeDiff, E.isNon, D.isI, Bool.false_or, Bool.true_or, Bool.not_true, Bool.not_false, Bool.true_and, Bool.false_and, Bool.and_true, Bool.or_false, Bool.or_true, Bool.false_eq_true, o_add, o_sub, c_eqI, c_neI, c_lt, c_le, c_gt, c_ge, c_is, c_isnot, b_lenL, b_lenT, b_int, b_tupL, b_tupT, b_lstL, b_lstT, i_sL, i_sT, i_eL, i_eT, slT, slLs, sl1, isiD, tyD, at30, at31, i_rn (show (p : Int) ≤ 1000000 by omega) (show -1000000 ≤ (p : Int) by omega), Int.toNat_natCast]
  have inner : ∀ (j : Nat) (b c e : Slot), j + 1 ≤ p → ∃ c' e', forL (fun t ρ st => Out.ofOpt (asgN (.nm 4) t ρ) fun ρ1 => exs P (callsN P w k) w [.set (.nm 3) (.bin .add (.var 3) (.comp (.bin .add (.var 4) (.tup [.var 5])) (.nm 5) .rng [.ix (.var 0) (.k (.int 1))] (.k (.bl true))))] ρ1 st)
      ((keysL d j).map tI) [.val (mkT p d m), .val (.lst ((keysL d j).map tI)), b, .val (.lst []), c, e] st = .nx [.val (mkT p d m), .val (.lst ((keysL d j).map tI)), b, .val (.lst ((keysL d (j + 1)).map tI)), c', e'] st := by
    intro j b c e hj
    obtain ⟨ρ', s', e1, rfl, _, acc, hacc, c', e', rfl⟩ := forL_of (enc := tI) (turn := fun t ρ st => Out.ofOpt (asgN (.nm 4) t ρ) fun ρ1 => exs P (callsN P w k) w [.set (.nm 3) (.bin .add (.var 3) (.comp (.bin .add (.var 4) (.tup [.var 5])) (.nm 5) .rng [.ix (.var 0) (.k (.int 1))] (.k (.bl true))))] ρ1 st)
      (fun r ρ s => s = st ∧ (∀ q ∈ r, q.length = j) ∧ ∃ acc, acc ++ (r.flatMap fun row => (List.range d).map fun (i : Nat) => row ++ [(i : Int)]) = keysL d (j + 1) ∧ ∃ c e, ρ = [.val (mkT p d m), .val (.lst ((keysL d j).map tI)), b, .val (.lst (acc.map tI)), c, e])
      (xs := keysL d j) (ρ := [.val (mkT p d m), .val (.lst ((keysL d j).map tI)), b, .val (.lst []), c, e]) (st := st) ⟨rfl, fun q hq => (keysL_len q hq).1, [], by simp [keysL], c, e, rfl⟩ (by
        rintro x r ρ s ⟨rfl, hq, acc, hacc, c, e, rfl⟩
        have hx := hq x List.mem_cons_self
        have hb1 := hb (j + 1) hj
        simp only [exs, ex, ev, evs, rb_ok, rb_exc, ro_ok, ro_exc, ob_nx, ob_rt, ob_exc, oo_some, rs_some, an_nx, an_rt, an_exc, bi_some, bi_some', FD.start, List.map_cons, List.map_nil, List.length_cons, List.length_nil, List.cons_append, List.nil_append, List.replicate, List.getElem?_cons_zero, List.getElem?_cons_succ, List.set_cons_zero, List.set_cons_succ, asg, asgs, asgN, asgNs, T.names, T.namess, wipeE, frzE, Option.map_some, if_true, if_false, reduceCtorEq, Nat.zero_add, Nat.reduceAdd, Nat.reduceSub, Nat.reduceLT, Nat.reduceLeDiff, E.isNon, D.isI, Bool.false_or, Bool.true_or, Bool.not_true, Bool.not_false, Bool.true_and, Bool.false_and, Bool.and_true, Bool.or_false, Bool.or_true, Bool.false_eq_true, o_add, o_sub, c_eqI, c_neI, c_lt, c_le, c_gt, c_ge, c_is, c_isnot, b_lenL, b_lenT, b_int, b_tupL, b_tupT, b_lstL, b_lstT, i_sL, i_sT, i_eL, i_eT, slT, slLs, sl1, isiD, tyD, at31, i_rn (show (d : Int) ≤ 1000000 by omega) (show -1000000 ≤ (d : Int) by omega), Int.toNat_natCast]
        rw [compL_ofM (f := fun (i : Nat) => tI (x ++ [(i : Int)])) fun i hi => by
          rw [o_addT (by simp; omega)]
          simp [exs, ex, ev, evs, rb_ok, rb_exc, ro_ok, ro_exc, ob_nx, ob_rt, ob_exc, oo_some, rs_some, an_nx, an_rt, an_exc, bi_some, bi_some', FD.start, List.map_cons, List.map_nil, List.length_cons, List.length_nil, List.cons_append, List.nil_append, List.replicate, List.getElem?_cons_zero, List.getElem?_cons_succ, List.set_cons_zero, List.set_cons_succ, asg, asgs, asgN, asgNs, T.names, T.namess, wipeE, frzE, Option.map_some, if_true, if_false, reduceCtorEq, Nat.zero_add, Nat.reduceAdd, Nat.reduceSub, Nat.reduceLT, Nat.reduceLeDiff, E.isNon, D.isI, Bool.false_or, Bool.true_or, Bool.not_true, Bool.not_false, Bool.true_and, Bool.false_and, Bool.and_true, Bool.or_false, Bool.or_true, Bool.false_eq_true, o_add, o_sub, c_eqI, c_neI, c_lt, c_le, c_gt, c_ge, c_is, c_isnot, b_lenL, b_lenT, b_int, b_tupL, b_tupT, b_lstL, b_lstT, i_sL, i_sT, i_eL, i_eT, slT, slLs, sl1, isiD, tyD]]
        have h10 : (List.range d).length ≤ maxLen := by rw [List.length_range]; exact Nat.le_trans hd (by decide)
        have hsum : (acc.map tI).length + ((List.range d).map fun (i : Nat) => tI (x ++ [(i : Int)])).length ≤ 1000000 := by
          rw [← hacc] at hb1
          simp only [List.flatMap_cons, List.length_append, List.length_map] at hb1 ⊢
          omega
        simp only [exs, ex, ev, evs, rb_ok, rb_exc, ro_ok, ro_exc, ob_nx, ob_rt, ob_exc, oo_some, rs_some, an_nx, an_rt, an_exc, bi_some, bi_some', FD.start, List.map_cons, List.map_nil, List.length_cons, List.length_nil, List.cons_append, List.nil_append, List.replicate, List.getElem?_cons_zero, List.getElem?_cons_succ, List.set_cons_zero, List.set_cons_succ, asg, asgs, asgN, asgNs, T.names, T.namess, wipeE, frzE, Option.map_some, if_true, if_false, reduceCtorEq, Nat.zero_add, Nat.reduceAdd, Nat.reduceSub, Nat.reduceLT, Nat.reduceLeDiff, E.isNon, D.isI, Bool.false_or, Bool.true_or, Bool.not_true, Bool.not_false, Bool.true_and, Bool.false_and, Bool.and_true, Bool.or_false, Bool.or_true, Bool.false_eq_true, o_add, o_sub, c_eqI, c_neI, c_lt, c_le, c_gt, c_ge, c_is, c_isnot, b_lenL, b_lenT, b_int, b_tupL, b_tupT, b_lstL, b_lstT, i_sL, i_sT, i_eL, i_eT, slT, slLs, sl1, isiD, tyD, List.length_map, h10]
        rw [o_addL' hsum]
        simp only [exs, ex, ev, evs, rb_ok, rb_exc, ro_ok, ro_exc, ob_nx, ob_rt, ob_exc, oo_some, rs_some, an_nx, an_rt, an_exc, bi_some, bi_some', FD.start, List.map_cons, List.map_nil, List.length_cons, List.length_nil, List.cons_append, List.nil_append, List.replicate, List.getElem?_cons_zero, List.getElem?_cons_succ, List.set_cons_zero, List.set_cons_succ, asg, asgs, asgN, asgNs, T.names, T.namess, wipeE, frzE, Option.map_some, if_true, if_false, reduceCtorEq, Nat.zero_add, Nat.reduceAdd, Nat.reduceSub, Nat.reduceLT, Nat.reduceLeDiff, E.isNon, D.isI, Bool.false_or, Bool.true_or, Bool.not_true, Bool.not_false, Bool.true_and, Bool.false_and, Bool.and_true, Bool.or_false, Bool.or_true, Bool.false_eq_true, o_add, o_sub, c_eqI, c_neI, c_lt, c_le, c_gt, c_ge, c_is, c_isnot, b_lenL, b_lenT, b_int, b_tupL, b_tupT, b_lstL, b_lstT, i_sL, i_sT, i_eL, i_eT, slT, slLs, sl1, isiD, tyD]
        refine ⟨_, _, rfl, rfl, fun q h => hq q (List.mem_cons_of_mem _ h), acc ++ (List.range d).map fun (i : Nat) => x ++ [(i : Int)], by rw [← hacc]; simp, .val (tI x), e, by simp [Function.comp_def]⟩)
    simp only [List.flatMap_nil, List.append_nil] at hacc
    subst hacc
    exact ⟨_, _, e1⟩
  obtain ⟨ρ', s', e1, rfl, j, hj, b, c, e, f, rfl⟩ := forL_of (enc := fun (k : Nat) => D.int (k : Int)) (turn := fun t ρ st => Out.ofOpt (asgN (.nm 2) t ρ) fun ρ1 => exs P (callsN P w k) w [.set (.nm 3) (.lst []), .for_ (.nm 4) .seq [.var 1] [.set (.nm 3) (.bin .add (.var 3) (.comp (.bin .add (.var 4) (.tup [.var 5])) (.nm 5) .rng [.ix (.var 0) (.k (.int 1))] (.k (.bl true))))], .set (.nm 1) (.var 3)] ρ1 st)
    (fun r ρ s => s = st ∧ ∃ j, j + r.length = p ∧ ∃ b c e f, ρ = [.val (mkT p d m), .val (.lst ((keysL d j).map tI)), b, c, e, f])
    (xs := List.range p) (ρ := [.val (mkT p d m), .val (.lst [.tup []]), .no, .no, .no, .no]) (st := st) ⟨rfl, 0, by simp, _, _, _, _, rfl⟩ (by
      rintro x r ρ s ⟨rfl, j, hj, b, c, e, f, rfl⟩
      have hj' : j + 1 ≤ p := by simp at hj; omega
      obtain ⟨c', e', e2⟩ := inner j (.val (.int (x : Int))) e f hj'
      simp only [exs, ex, ev, evs, rb_ok, rb_exc, ro_ok, ro_exc, ob_nx, ob_rt, ob_exc, oo_some, rs_some, an_nx, an_rt, an_exc, bi_some, bi_some', FD.start, List.map_cons, List.map_nil, List.length_cons, List.length_nil, List.cons_append, List.nil_append, List.replicate, List.getElem?_cons_zero, List.getElem?_cons_succ, List.set_cons_zero, List.set_cons_succ, asg, asgs, asgN, asgNs, T.names, T.namess, wipeE, frzE, Option.map_some, if_true, if_false, reduceCtorEq, Nat.zero_add, Nat.reduceAdd, Nat.reduceSub, Nat.reduceLT, Nat.reduceLeDiff, E.isNon, D.isI, Bool.false_or, Bool.true_or, Bool.not_true, Bool.not_false, Bool.true_and, Bool.false_and, Bool.and_true, Bool.or_false, Bool.or_true, Bool.false_eq_true, o_add, o_sub, c_eqI, c_neI, c_lt, c_le, c_gt, c_ge, c_is, c_isnot, b_lenL, b_lenT, b_int, b_tupL, b_tupT, b_lstL, b_lstT, i_sL, i_sT, i_eL, i_eT, slT, slLs, sl1, isiD, tyD] at e2 ⊢
      rw [e2]
      simp only [exs, ex, ev, evs, rb_ok, rb_exc, ro_ok, ro_exc, ob_nx, ob_rt, ob_exc, oo_some, rs_some, an_nx, an_rt, an_exc, bi_some, bi_some', FD.start, List.map_cons, List.map_nil, List.length_cons, List.length_nil, List.cons_append, List.nil_append, List.replicate, List.getElem?_cons_zero, List.getElem?_cons_succ, List.set_cons_zero, List.set_cons_succ, asg, asgs, asgN, asgNs, T.names, T.namess, wipeE, frzE, Option.map_some, if_true, if_false, reduceCtorEq, Nat.zero_add, Nat.reduceAdd, Nat.reduceSub, Nat.reduceLT, Nat.reduceLeDiff, E.isNon, D.isI, Bool.false_or, Bool.true_or, Bool.not_true, Bool.not_false, Bool.true_and, Bool.false_and, Bool.and_true, Bool.or_false, Bool.or_true, Bool.false_eq_true, o_add, o_sub, c_eqI, c_neI, c_lt, c_le, c_gt, c_ge, c_is, c_isnot, b_lenL, b_lenT, b_int, b_tupL, b_tupT, b_lstL, b_lstT, i_sL, i_sT, i_eL, i_eT, slT, slLs, sl1, isiD, tyD]
      exact ⟨_, _, rfl, rfl, j + 1, by simp at hj; omega, _, _, _, _, rfl⟩)
  have : j = p := by simpa using hj
  subst this
  simp only [exs, ex, ev, evs, rb_ok, rb_exc, ro_ok, ro_exc, ob_nx, ob_rt, ob_exc, oo_some, rs_some, an_nx, an_rt, an_exc, bi_some, bi_some', FD.start, List.map_cons, List.map_nil, List.length_cons, List.length_nil, List.cons_append, List.nil_append, List.replicate, List.getElem?_cons_zero, List.getElem?_cons_succ, List.set_cons_zero, List.set_cons_succ, asg, asgs, asgN, asgNs, T.names, T.namess, wipeE, frzE, Option.map_some, if_true, if_false, reduceCtorEq, Nat.zero_add, Nat.reduceAdd, Nat.reduceSub, Nat.reduceLT, Nat.reduceLeDiff, E.isNon, D.isI, Bool.false_or, Bool.true_or, Bool.not_true, Bool.not_false, Bool.true_and, Bool.false_and, Bool.and_true, Bool.or_false, Bool.or_true, Bool.false_eq_true, o_add, o_sub, c_eqI, c_neI, c_lt, c_le, c_gt, c_ge, c_is, c_isnot, b_lenL, b_lenT, b_int, b_tupL, b_tupT, b_lstL, b_lstT, i_sL, i_sT, i_eL, i_eT, slT, slLs, sl1, isiD, tyD] at e1 ⊢
  rw [e1]
  simp only [exs, ex, ev, evs, rb_ok, rb_exc, ro_ok, ro_exc, ob_nx, ob_rt, ob_exc, oo_some, rs_some, an_nx, an_rt, an_exc, bi_some, bi_some', FD.start, List.map_cons, List.map_nil, List.length_cons, List.length_nil, List.cons_append, List.nil_append, List.replicate, List.getElem?_cons_zero, List.getElem?_cons_succ, List.set_cons_zero, List.set_cons_succ, asg, asgs, asgN, asgNs, T.names, T.namess, wipeE, frzE, Option.map_some, if_true, if_false, reduceCtorEq, Nat.zero_add, Nat.reduceAdd, Nat.reduceSub, Nat.reduceLT, Nat.reduceLeDiff, E.isNon, D.isI, Bool.false_or, Bool.true_or, Bool.not_true, Bool.not_false, Bool.true_and, Bool.false_and, Bool.and_true, Bool.or_false, Bool.or_true, Bool.false_eq_true, o_add, o_sub, c_eqI, c_neI, c_lt, c_le, c_gt, c_ge, c_is, c_isnot, b_lenL, b_lenT, b_int, b_tupL, b_tupT, b_lstL, b_lstT, i_sL, i_sT, i_eL, i_eT, slT, slLs, sl1, isiD, tyD]
theorem s_law_fits (h30 : P.defs (I.fn 30) = some (d__law_fits I)) (h : 1 ≤ n) {k : List Int} {l : List (List Int)} (hl : l.length ≤ 1000000) (hk : k.length = l.length) : (callsN P w n).call (I.fn 30) [tI k, tTt l] st = .ok (.bl (fitsB k l)) st := by
  obtain ⟨j, rfl⟩ := lev h
  rw [call_at h30 rfl]
  simp only [d__law_fits, exs, ex, ev, evs, rb_ok, rb_exc, ro_ok, ro_exc, ob_nx, ob_rt, ob_exc, oo_some, rs_some, an_nx, an_rt, an_exc, bi_some, bi_some', FD.start, List.map_cons, List.map_nil, List.length_cons, List.length_nil, List.cons_append, List.nil_append, List.replicate, List.getElem?_cons_zero, List.getElem?_cons_succ, List.set_cons_zero, List.set_cons_succ, asg, asgs, asgN, asgNs, T.names, T.namess, wipeE, frzE, Option.map_some, if_true, if_false, reduceCtorEq, Nat.zero_add, Nat.reduceAdd, Nat.reduceSub, Nat.reduceLT, Nat.reduceLeDiff, E.isNon, D.isI, Bool.false_or, Bool.true_or, Bool.not_true, Bool.not_false, Bool.true_and, Bool.false_and, Bool.and_true, Bool.or_false, Bool.or_true, Bool.false_eq_true, o_add, o_sub, c_eqI, c_neI, c_lt, c_le, c_gt, c_ge, c_is, c_isnot, b_lenL, b_lenT, b_int, b_tupL, b_tupT, b_lstL, b_lstT, i_sL, i_sT, i_eL, i_eT, slT, slLs, sl1, isiD, tyD, List.length_map, i_rn (show (l.length : Int) ≤ 1000000 by omega) (show -1000000 ≤ (l.length : Int) by omega), Int.toNat_natCast]
  rw [compL_ofF (p := fun i => !(l.getD i []).contains (k.getD i 0)) (f := fun (i : Nat) => D.int (i : Int)) fun i hi => by
    have hi := List.mem_range.mp hi
    have e1 : atD (k.map D.int) (i : Int) = some (.int (k.getD i 0)) := by
      rw [at_pos rfl (by simpa using (by omega : i < k.length))]
      simp [List.getElem?_eq_getElem (show i < k.length by omega)]
    have e2 : atD (l.map tI) (i : Int) = some (tI (l.getD i [])) := by
      rw [at_pos rfl (by simpa using hi)]
      simp [List.getElem?_eq_getElem hi]
    simp only [exs, ex, ev, evs, rb_ok, rb_exc, ro_ok, ro_exc, ob_nx, ob_rt, ob_exc, oo_some, rs_some, an_nx, an_rt, an_exc, bi_some, bi_some', FD.start, List.map_cons, List.map_nil, List.length_cons, List.length_nil, List.cons_append, List.nil_append, List.replicate, List.getElem?_cons_zero, List.getElem?_cons_succ, List.set_cons_zero, List.set_cons_succ, asg, asgs, asgN, asgNs, T.names, T.namess, wipeE, frzE, Option.map_some, if_true, if_false, reduceCtorEq, Nat.zero_add, Nat.reduceAdd, Nat.reduceSub, Nat.reduceLT, Nat.reduceLeDiff, E.isNon, D.isI, Bool.false_or, Bool.true_or, Bool.not_true, Bool.not_false, Bool.true_and, Bool.false_and, Bool.and_true, Bool.or_false, Bool.or_true, Bool.false_eq_true, o_add, o_sub, c_eqI, c_neI, c_lt, c_le, c_gt, c_ge, c_is, c_isnot, b_lenL, b_lenT, b_int, b_tupL, b_tupT, b_lstL, b_lstT, i_sL, i_sT, i_eL, i_eT, slT, slLs, sl1, isiD, tyD, e1, e2, c_notinT]
    cases (l.getD i []).contains (k.getD i 0) <;> simp only [exs, ex, ev, evs, rb_ok, rb_exc, ro_ok, ro_exc, ob_nx, ob_rt, ob_exc, oo_some, rs_some, an_nx, an_rt, an_exc, bi_some, bi_some', FD.start, List.map_cons, List.map_nil, List.length_cons, List.length_nil, List.cons_append, List.nil_append, List.replicate, List.getElem?_cons_zero, List.getElem?_cons_succ, List.set_cons_zero, List.set_cons_succ, asg, asgs, asgN, asgNs, T.names, T.namess, wipeE, frzE, Option.map_some, if_true, if_false, reduceCtorEq, Nat.zero_add, Nat.reduceAdd, Nat.reduceSub, Nat.reduceLT, Nat.reduceLeDiff, E.isNon, D.isI, Bool.false_or, Bool.true_or, Bool.not_true, Bool.not_false, Bool.true_and, Bool.false_and, Bool.and_true, Bool.or_false, Bool.or_true, Bool.false_eq_true, o_add, o_sub, c_eqI, c_neI, c_lt, c_le, c_gt, c_ge, c_is, c_isnot, b_lenL, b_lenT, b_int, b_tupL, b_tupT, b_lstL, b_lstT, i_sL, i_sT, i_eL, i_eT, slT, slLs, sl1, isiD, tyD]]
  have hz : (((List.range l.length).filter fun i => !(l.getD i []).contains (k.getD i 0)).map fun (i : Nat) => D.int (i : Int)).length ≤ maxLen := by
    rw [List.length_map]
    refine Nat.le_trans (List.length_filter_le _ _) ?_
    rw [List.length_range]
    exact hl
  have hp : D.plains (((List.range l.length).filter fun i => !(l.getD i []).contains (k.getD i 0)).map fun (i : Nat) => D.int (i : Int)) = true := plains_of fun d hd => by
    obtain ⟨i, _, rfl⟩ := List.mem_map.mp hd
    rfl
  have key : ((List.range l.length).all fun i => (l.getD i []).contains (k.getD i 0)) = fitsB k l := by
    unfold fitsB
    rw [Bool.eq_iff_iff, List.all_eq_true, List.all_eq_true]
    constructor
    · rintro hh ⟨a, b⟩ hp
      obtain ⟨i, hi, e⟩ := List.mem_iff_getElem.mp hp
      have hi' : i < l.length := by rw [List.length_zip] at hi; omega
      have := hh i (List.mem_range.mpr hi')
      rw [List.getElem_zip] at e
      cases e
      simpa [List.getElem?_eq_getElem hi', List.getElem?_eq_getElem (show i < k.length by omega)] using this
    · intro hh i hi
      have hi := List.mem_range.mp hi
      have hik : i < k.length := by omega
      have := hh (k[i], l[i]) (List.mem_iff_getElem.mpr ⟨i, by rw [List.length_zip]; omega, by rw [List.getElem_zip]⟩)
      simpa [List.getElem?_eq_getElem hi, List.getElem?_eq_getElem hik] using this
  simp only [exs, ex, ev, evs, rb_ok, rb_exc, ro_ok, ro_exc, ob_nx, ob_rt, ob_exc, oo_some, rs_some, an_nx, an_rt, an_exc, bi_some, bi_some', FD.start, List.map_cons, List.map_nil, List.length_cons, List.length_nil, List.cons_append, List.nil_append, List.replicate, List.getElem?_cons_zero, List.getElem?_cons_succ, List.set_cons_zero, List.set_cons_succ, asg, asgs, asgN, asgNs, T.names, T.namess, wipeE, frzE, Option.map_some, if_true, if_false, reduceCtorEq, Nat.zero_add, Nat.reduceAdd, Nat.reduceSub, Nat.reduceLT, Nat.reduceLeDiff, E.isNon, D.isI, Bool.false_or, Bool.true_or, Bool.not_true, Bool.not_false, Bool.true_and, Bool.false_and, Bool.and_true, Bool.or_false, Bool.or_true, Bool.false_eq_true, o_add, o_sub, c_eqI, c_neI, c_lt, c_le, c_gt, c_ge, c_is, c_isnot, b_lenL, b_lenT, b_int, b_tupL, b_tupT, b_lstL, b_lstT, i_sL, i_sT, i_eL, i_eT, slT, slLs, sl1, isiD, tyD, hz, c_eqE' hp, List.isEmpty_map, filter_allI, key]
end
end Mini
end
section
set_option Elab.async false
set_option linter.all false
set_option maxRecDepth 100000
set_option maxHeartbeats 2000000
/-! # what the law's own functions tell: drawn makes and locks -/
namespace Mini
open PySem Mini.P
section
variable {P : Prog} {I : Ix} {w n : Nat} {ns : List Int}
theorem s_law_make (L : BL P I) (h27 : P.defs (I.fn 27) = some (d__law_make I)) (h : 3 ≤ n) {s : Int × Int × Int} (hs : RowOk s) :
    ∃ p d m s', (callsN P w n).call (I.fn 27) [.ptr 0] (rowSt ns s) = .ok (mkT (p : Nat) (d : Nat) (m : Nat)) (rowSt ns s') ∧ RowOk s' ∧ MkOk p d m := by
  obtain ⟨k, rfl⟩ := lev h
  rw [call_at h27 rfl]
  obtain ⟨x, s1, e1, h1, hx⟩ := s_pick (w := w) (ns := ns) L (show 2 ≤ k + 2 by omega) hs (l := [.tup [.int 1, .int 2], .tup [.int 1, .int 3], .tup [.int 2, .int 2], .tup [.int 2, .int 2], .tup [.int 2, .int 3], .tup [.int 3, .int 2], .tup [.int 1, .int 4]]) (by simp) (by simp)
  have hx' : ∃ p d : Nat, x = .tup [.int p, .int d] ∧ (p, d) ∈ [(1, 2), (1, 3), (2, 2), (2, 3), (3, 2), (1, 4)] := by
    simp only [List.mem_cons, List.not_mem_nil, or_false] at hx
    rcases hx with rfl | rfl | rfl | rfl | rfl | rfl | rfl
    · exact ⟨1, 2, rfl, by simp⟩
    · exact ⟨1, 3, rfl, by simp⟩
    · exact ⟨2, 2, rfl, by simp⟩
    · exact ⟨2, 2, rfl, by simp⟩
    · exact ⟨2, 3, rfl, by simp⟩
    · exact ⟨3, 2, rfl, by simp⟩
    · exact ⟨1, 4, rfl, by simp⟩
  obtain ⟨p, d, rfl, hpd⟩ := hx'
  have hd : 2 ≤ d ∧ d ≤ 4 := by simp at hpd; omega
  obtain ⟨r, s2, e2, h2, r0, r1⟩ := s_taken (w := w) (ns := ns) L (show 1 ≤ k + 2 by omega) h1 (m := (d : Int)) (by omega) (by omega)
  obtain ⟨y, s3, e3, h3, hy⟩ := s_pick (w := w) (ns := ns) L (show 2 ≤ k + 2 by omega) h2 (l := [.int d, .int d, .int (1 + r)]) (by simp) (by simp)
  have hy' : ∃ m : Nat, y = .int m ∧ 1 ≤ m ∧ m ≤ d := by
    simp only [List.mem_cons, List.not_mem_nil, or_false] at hy
    rcases hy with rfl | rfl | rfl
    · exact ⟨d, rfl, by omega, by omega⟩
    · exact ⟨d, rfl, by omega, by omega⟩
    · exact ⟨(1 + r).toNat, by congr 1; omega, by omega, by omega⟩
  obtain ⟨m, rfl, m1, m2⟩ := hy'
  simp only [d__law_make, exs, ex, ev, evs, rb_ok, rb_exc, ro_ok, ro_exc, ob_nx, ob_rt, ob_exc, oo_some, rs_some, an_nx, an_rt, an_exc, bi_some, bi_some', FD.start, List.map_cons, List.map_nil, List.length_cons, List.length_nil, List.cons_append, List.nil_append, List.replicate, List.getElem?_cons_zero, List.getElem?_cons_succ, List.set_cons_zero, List.set_cons_succ, asg, asgs, asgN, asgNs, T.names, T.namess, wipeE, frzE, Option.map_some, if_true, if_false, reduceCtorEq, Nat.zero_add, Nat.reduceAdd, Nat.reduceSub, Nat.reduceLT, Nat.reduceLeDiff, E.isNon, D.isI, Bool.false_or, Bool.true_or, Bool.not_true, Bool.not_false, Bool.true_and, Bool.false_and, Bool.and_true, Bool.or_false, Bool.or_true, Bool.false_eq_true, o_add, o_sub, c_eqI, c_neI, c_lt, c_le, c_gt, c_ge, c_is, c_isnot, b_lenL, b_lenT, b_int, b_tupL, b_tupT, b_lstL, b_lstT, i_sL, i_sT, i_eL, i_eT, slT, slLs, sl1, isiD, tyD, e1, e2, e3]
  exact ⟨p, d, m, s3, rfl, h3, hpd, m1, m2⟩
theorem s_bad_make (L : BL P I) (h31 : P.defs (I.fn 31) = some (d__law_bad_make I)) (h : 3 ≤ n) {s : Int × Int × Int} (hs : RowOk s) :
    ∃ x s', (callsN P w n).call (I.fn 31) [.ptr 0] (rowSt ns s) = .ok x (rowSt ns s') ∧ RowOk s' ∧ x ∈ ([.non, .int 3, .tup [.int 2, .int 2, .int 2], .str "make", .lst [], .dic [] []] : List D) := by
  obtain ⟨k, rfl⟩ := lev h
  rw [call_at h31 rfl]
  obtain ⟨x, s1, e1, h1, hx⟩ := s_pick (w := w) (ns := ns) L (show 2 ≤ k + 2 by omega) hs (l := [.non, .int 3, .tup [.int 2, .int 2, .int 2], .str "make", .lst [], .dic [] []]) (by simp) (by simp)
  simp only [d__law_bad_make, exs, ex, ev, evs, rb_ok, rb_exc, ro_ok, ro_exc, ob_nx, ob_rt, ob_exc, oo_some, rs_some, an_nx, an_rt, an_exc, bi_some, bi_some', FD.start, List.map_cons, List.map_nil, List.length_cons, List.length_nil, List.cons_append, List.nil_append, List.replicate, List.getElem?_cons_zero, List.getElem?_cons_succ, List.set_cons_zero, List.set_cons_succ, asg, asgs, asgN, asgNs, T.names, T.namess, wipeE, frzE, Option.map_some, if_true, if_false, reduceCtorEq, Nat.zero_add, Nat.reduceAdd, Nat.reduceSub, Nat.reduceLT, Nat.reduceLeDiff, E.isNon, D.isI, Bool.false_or, Bool.true_or, Bool.not_true, Bool.not_false, Bool.true_and, Bool.false_and, Bool.and_true, Bool.or_false, Bool.or_true, Bool.false_eq_true, o_add, o_sub, c_eqI, c_neI, c_lt, c_le, c_gt, c_ge, c_is, c_isnot, b_lenL, b_lenT, b_int, b_tupL, b_tupT, b_lstL, b_lstT, i_sL, i_sT, i_eL, i_eT, slT, slLs, sl1, isiD, tyD, e1]
  exact ⟨x, s1, rfl, h1, hx⟩
theorem cut_in {n : Nat} {i : Int} {d : Nat} (h0 : 0 ≤ i) (h1 : i ≤ n) (hn : n ≤ 1000000) : cutI n (.int i) d = some i.toNat := by
  show (if _ then _ else _) = _
  rw [if_neg (by omega), if_neg (by omega)]
  congr 1
  omega
theorem s_shuffled (L : BL P I) (h25 : P.defs (I.fn 25) = some (d__law_shuffled I)) (h : 2 ≤ n) {s : Int × Int × Int} (hs : RowOk s) {l : List D} (hl : l.length ≤ 1000) :
    ∃ l' s', (callsN P w n).call (I.fn 25) [.ptr 0, .lst l] (rowSt ns s) = .ok (.lst l') (rowSt ns s') ∧ RowOk s' ∧ l'.Perm l := by
  obtain ⟨k, rfl⟩ := lev h
  rw [call_at h25 rfl]
  obtain ⟨ρ', st', e, acc, s', rfl, hs', _, hp, a, b, rfl⟩ := forL_of (enc := id) (turn := fun t ρ st => Out.ofOpt (asgN (.nm 3) t ρ) fun ρ1 => exs P (callsN P w (k + 1)) w [.set (.nm 4) (.call (I.fn 21) [.var 0, .bin .add (.bi .len [.var 2]) (.k (.int 1))]), .set (.nm 2) (.bin .add (.bin .add (.sl (.var 2) (.k .non) (.var 4)) (.lst [.var 3])) (.sl (.var 2) (.var 4) (.k .non)))] ρ1 st)
    (fun r ρ st => ∃ acc s', st = rowSt ns s' ∧ RowOk s' ∧ acc.length + r.length ≤ 1000 ∧ (acc ++ r).Perm l ∧ ∃ a b, ρ = [.val (.ptr 0), .val (.lst l), .val (.lst acc), a, b]) (xs := l) (ρ := [.val (.ptr 0), .val (.lst l), .val (.lst []), .no, .no]) (st := rowSt ns s)
    ⟨[], s, rfl, hs, by simpa using hl, by simp, _, _, rfl⟩ (by
      rintro x r ρ st ⟨acc, s', rfl, hs', hlen, hp, a, b, rfl⟩
      simp only [List.length_cons] at hlen
      obtain ⟨q, s2, e2, h2, q0, q1⟩ := s_taken (w := w) (ns := ns) L (show 1 ≤ k + 1 by omega) hs' (m := (acc.length : Int) + 1) (by omega) (by omega)
      have c1 : cutI acc.length (.int q) acc.length = some q.toNat := cut_in q0 (by omega) (by omega)
      have c2 : cutI acc.length (.int q) 0 = some q.toNat := cut_in q0 (by omega) (by omega)
      simp only [id, exs, ex, ev, evs, rb_ok, rb_exc, ro_ok, ro_exc, ob_nx, ob_rt, ob_exc, oo_some, rs_some, an_nx, an_rt, an_exc, bi_some, bi_some', FD.start, List.map_cons, List.map_nil, List.length_cons, List.length_nil, List.cons_append, List.nil_append, List.replicate, List.getElem?_cons_zero, List.getElem?_cons_succ, List.set_cons_zero, List.set_cons_succ, asg, asgs, asgN, asgNs, T.names, T.namess, wipeE, frzE, Option.map_some, if_true, if_false, reduceCtorEq, Nat.zero_add, Nat.reduceAdd, Nat.reduceSub, Nat.reduceLT, Nat.reduceLeDiff, E.isNon, D.isI, Bool.false_or, Bool.true_or, Bool.not_true, Bool.not_false, Bool.true_and, Bool.false_and, Bool.and_true, Bool.or_false, Bool.or_true, Bool.false_eq_true, o_add, o_sub, c_eqI, c_neI, c_lt, c_le, c_gt, c_ge, c_is, c_isnot, b_lenL, b_lenT, b_int, b_tupL, b_tupT, b_lstL, b_lstT, i_sL, i_sT, i_eL, i_eT, slT, slLs, sl1, isiD, tyD, e2, sl_to c1, sl_from c2]
      rw [o_addL (by simp; omega)]
      simp only [exs, ex, ev, evs, rb_ok, rb_exc, ro_ok, ro_exc, ob_nx, ob_rt, ob_exc, oo_some, rs_some, an_nx, an_rt, an_exc, bi_some, bi_some', FD.start, List.map_cons, List.map_nil, List.length_cons, List.length_nil, List.cons_append, List.nil_append, List.replicate, List.getElem?_cons_zero, List.getElem?_cons_succ, List.set_cons_zero, List.set_cons_succ, asg, asgs, asgN, asgNs, T.names, T.namess, wipeE, frzE, Option.map_some, if_true, if_false, reduceCtorEq, Nat.zero_add, Nat.reduceAdd, Nat.reduceSub, Nat.reduceLT, Nat.reduceLeDiff, E.isNon, D.isI, Bool.false_or, Bool.true_or, Bool.not_true, Bool.not_false, Bool.true_and, Bool.false_and, Bool.and_true, Bool.or_false, Bool.or_true, Bool.false_eq_true, o_add, o_sub, c_eqI, c_neI, c_lt, c_le, c_gt, c_ge, c_is, c_isnot, b_lenL, b_lenT, b_int, b_tupL, b_tupT, b_lstL, b_lstT, i_sL, i_sT, i_eL, i_eT, slT, slLs, sl1, isiD, tyD]
      rw [o_addL (by simp; omega)]
      simp only [exs, ex, ev, evs, rb_ok, rb_exc, ro_ok, ro_exc, ob_nx, ob_rt, ob_exc, oo_some, rs_some, an_nx, an_rt, an_exc, bi_some, bi_some', FD.start, List.map_cons, List.map_nil, List.length_cons, List.length_nil, List.cons_append, List.nil_append, List.replicate, List.getElem?_cons_zero, List.getElem?_cons_succ, List.set_cons_zero, List.set_cons_succ, asg, asgs, asgN, asgNs, T.names, T.namess, wipeE, frzE, Option.map_some, if_true, if_false, reduceCtorEq, Nat.zero_add, Nat.reduceAdd, Nat.reduceSub, Nat.reduceLT, Nat.reduceLeDiff, E.isNon, D.isI, Bool.false_or, Bool.true_or, Bool.not_true, Bool.not_false, Bool.true_and, Bool.false_and, Bool.and_true, Bool.or_false, Bool.or_true, Bool.false_eq_true, o_add, o_sub, c_eqI, c_neI, c_lt, c_le, c_gt, c_ge, c_is, c_isnot, b_lenL, b_lenT, b_int, b_tupL, b_tupT, b_lstL, b_lstT, i_sL, i_sT, i_eL, i_eT, slT, slLs, sl1, isiD, tyD]
      refine ⟨_, _, rfl, _, s2, rfl, h2, by simp; omega, ?_, _, _, rfl⟩
      refine List.Perm.trans ?_ hp
      have : (acc.take q.toNat ++ [x] ++ acc.drop q.toNat).Perm (acc ++ [x]) := by
        have z : (acc.take q.toNat ++ [x] ++ acc.drop q.toNat).Perm (acc.take q.toNat ++ (acc.drop q.toNat ++ [x])) := by
          rw [List.append_assoc]
          exact List.Perm.append_left _ (List.perm_append_comm)
        rw [← List.append_assoc, List.take_append_drop] at z
        exact z
      have y := this.append_right r
      simpa using y)
  simp only [List.append_nil] at hp
  rw [List.map_id] at e
  simp only [d__law_shuffled, exs, ex, ev, evs, rb_ok, rb_exc, ro_ok, ro_exc, ob_nx, ob_rt, ob_exc, oo_some, rs_some, an_nx, an_rt, an_exc, bi_some, bi_some', FD.start, List.map_cons, List.map_nil, List.length_cons, List.length_nil, List.cons_append, List.nil_append, List.replicate, List.getElem?_cons_zero, List.getElem?_cons_succ, List.set_cons_zero, List.set_cons_succ, asg, asgs, asgN, asgNs, T.names, T.namess, wipeE, frzE, Option.map_some, if_true, if_false, reduceCtorEq, Nat.zero_add, Nat.reduceAdd, Nat.reduceSub, Nat.reduceLT, Nat.reduceLeDiff, E.isNon, D.isI, Bool.false_or, Bool.true_or, Bool.not_true, Bool.not_false, Bool.true_and, Bool.false_and, Bool.and_true, Bool.or_false, Bool.or_true, Bool.false_eq_true, o_add, o_sub, c_eqI, c_neI, c_lt, c_le, c_gt, c_ge, c_is, c_isnot, b_lenL, b_lenT, b_int, b_tupL, b_tupT, b_lstL, b_lstT, i_sL, i_sT, i_eL, i_eT, slT, slLs, sl1, isiD, tyD] at e ⊢
  rw [e]
  simp only [exs, ex, ev, evs, rb_ok, rb_exc, ro_ok, ro_exc, ob_nx, ob_rt, ob_exc, oo_some, rs_some, an_nx, an_rt, an_exc, bi_some, bi_some', FD.start, List.map_cons, List.map_nil, List.length_cons, List.length_nil, List.cons_append, List.nil_append, List.replicate, List.getElem?_cons_zero, List.getElem?_cons_succ, List.set_cons_zero, List.set_cons_succ, asg, asgs, asgN, asgNs, T.names, T.namess, wipeE, frzE, Option.map_some, if_true, if_false, reduceCtorEq, Nat.zero_add, Nat.reduceAdd, Nat.reduceSub, Nat.reduceLT, Nat.reduceLeDiff, E.isNon, D.isI, Bool.false_or, Bool.true_or, Bool.not_true, Bool.not_false, Bool.true_and, Bool.false_and, Bool.and_true, Bool.or_false, Bool.or_true, Bool.false_eq_true, o_add, o_sub, c_eqI, c_neI, c_lt, c_le, c_gt, c_ge, c_is, c_isnot, b_lenL, b_lenT, b_int, b_tupL, b_tupT, b_lstL, b_lstT, i_sL, i_sT, i_eL, i_eT, slT, slLs, sl1, isiD, tyD]
  exact ⟨acc, s', rfl, hs', hp⟩
/-- sorted numbers without doubles -/
theorem sort_lt {l : List Int} (h : l.Nodup) : (l.mergeSort (fun a b => decide (a ≤ b))).Pairwise (· < ·) := by
  have h1 := sort_le l
  have h2 : (l.mergeSort (fun a b => decide (a ≤ b))).Nodup := (List.mergeSort_perm _ _).nodup_iff.mpr h
  exact List.Pairwise.imp₂ (fun a b (x : a ≤ b) (y : a ≠ b) => by omega) h1 h2
theorem s_law_lock (L : BL P I) (h25 : P.defs (I.fn 25) = some (d__law_shuffled I)) (h32 : P.defs (I.fn 32) = some (d__law_lock I)) (h : 3 ≤ n) {s : Int × Int × Int} (hs : RowOk s) {p d m : Nat} (hp : p ≤ 10) (hd : d ≤ 10) (hm : 1 ≤ m) (hmd : m ≤ 10) :
    ∃ l s', (callsN P w n).call (I.fn 32) [.ptr 0, mkT p d m] (rowSt ns s) = .ok (tTt l) (rowSt ns s') ∧ RowOk s' ∧ gLock p d m l := by
  obtain ⟨k, rfl⟩ := lev h
  rw [call_at h32 rfl]
  obtain ⟨ρ', st', e, acc, s', rfl, hs', hlen, hacc, a, b, rfl⟩ := forL_of (enc := fun (k : Nat) => D.int (k : Int)) (turn := fun t ρ st => Out.ofOpt (asgN (.nm 3) t ρ) fun ρ1 => exs P (callsN P w (k + 2)) w [.set (.nm 4) (.sl (.call (I.fn 25) [.var 0, .bi .lrange [.ix (.var 1) (.k (.int 1))]]) (.k .non) (.call (I.fn 22) [.var 0, .lst [.ix (.var 1) (.k (.int 2)), .ix (.var 1) (.k (.int 2)), .k (.int 1), .call (I.fn 21) [.var 0, .bin .add (.ix (.var 1) (.k (.int 2))) (.k (.int 1))]]])), .set (.nm 2) (.bin .add (.var 2) (.tup [.bi .tuple [.bi .sorted [.var 4]]]))] ρ1 st)
    (fun r ρ st => ∃ (acc : List (List Int)) (s' : Int × Int × Int), st = rowSt ns s' ∧ RowOk s' ∧ acc.length + r.length = p ∧ (∀ e ∈ acc, (∀ i ∈ e, 0 ≤ i ∧ i ≤ (d : Int) - 1) ∧ e.Pairwise (· < ·) ∧ e.length ≤ m) ∧ ∃ a b, ρ = [.val (.ptr 0), .val (mkT p d m), .val (tTt acc), a, b]) (xs := List.range p) (ρ := [.val (.ptr 0), .val (mkT p d m), .val (.tup []), .no, .no]) (st := rowSt ns s)
    ⟨[], s, rfl, hs, by simp, (fun e h => nomatch h), _, _, rfl⟩ (by
      rintro x r ρ st ⟨acc, s', rfl, hs', hlen, hacc, a, b, rfl⟩
      simp only [List.length_cons] at hlen
      obtain ⟨l', s1, e1, h1, hperm⟩ := s_shuffled (w := w) (ns := ns) L h25 (show 2 ≤ k + 2 by omega) hs' (l := rangeD d) (by simp; omega)
      obtain ⟨q, s2, e2, h2, q0, q1⟩ := s_taken (w := w) (ns := ns) L (show 1 ≤ k + 2 by omega) h1 (m := (m : Int) + 1) (by omega) (by omega)
      obtain ⟨y, s3, e3, h3, hy⟩ := s_pick (w := w) (ns := ns) L (show 2 ≤ k + 2 by omega) h2 (l := [.int m, .int m, .int 1, .int q]) (by simp) (by simp)
      have hy' : ∃ j : Int, y = .int j ∧ 0 ≤ j ∧ j ≤ m := by
        simp only [List.mem_cons, List.not_mem_nil, or_false] at hy
        rcases hy with rfl | rfl | rfl | rfl
        · exact ⟨_, rfl, by omega, by omega⟩
        · exact ⟨_, rfl, by omega, by omega⟩
        · exact ⟨_, rfl, by omega, by omega⟩
        · exact ⟨_, rfl, by omega, by omega⟩
      obtain ⟨j, rfl, j0, j1⟩ := hy'
      -- the shuffled numbers
      obtain ⟨is, rfl, his⟩ : ∃ is : List Int, l' = is.map .int ∧ is.Perm ((List.range d).map fun (i : Nat) => (i : Int)) := by
        have hr : rangeD d = ((List.range d).map fun (i : Nat) => (i : Int)).map D.int := by simp [Function.comp_def]
        rw [hr] at hperm
        have inj : ∀ a b : Int, D.int a = D.int b → a = b := fun a b h => by cases h; rfl
        have hall : ∀ z ∈ l', ∃ i : Int, z = .int i := fun z hz => by
          obtain ⟨i, _, rfl⟩ := List.mem_map.mp (hperm.mem_iff.mp hz)
          exact ⟨i, rfl⟩
        have : ∀ l : List D, (∀ z ∈ l, ∃ i : Int, z = .int i) → ∃ is : List Int, l = is.map .int := fun l => by
          induction l with
          | nil => exact fun _ => ⟨[], rfl⟩
          | cons z r ih =>
            intro h
            obtain ⟨is, rfl⟩ := ih fun y hy => h y (List.mem_cons_of_mem _ hy)
            obtain ⟨i, rfl⟩ := h z List.mem_cons_self
            exact ⟨i :: is, rfl⟩
        obtain ⟨is, rfl⟩ := this l' hall
        refine ⟨is, rfl, ?_⟩
        have z := hperm.map (fun d => match d with | .int i => i | _ => 0)
        simpa [Function.comp_def] using z
      have hnd : is.Nodup := his.nodup_iff.mpr (by
        rw [List.nodup_iff_pairwise_ne, List.pairwise_map]
        exact (List.pairwise_lt_range).imp fun h => by omega)
      have hmem : ∀ i ∈ is, 0 ≤ i ∧ i ≤ (d : Int) - 1 := fun i hi => by
        obtain ⟨t, ht, rfl⟩ := List.mem_map.mp (his.mem_iff.mp hi)
        have := List.mem_range.mp ht
        omega
      have hlis : is.length = d := by rw [his.length_eq]; simp
      have cut : cutI ((is.map D.int).length) (.int j) ((is.map D.int).length) = some (min j.toNat is.length) := by
        show (if _ then _ else _) = _
        rw [if_neg (by omega), if_neg (by omega), List.length_map]
      have hsort : opBi .sorted [.lst ((is.map D.int).take (min j.toNat is.length))] = some (.lst (((is.take (min j.toNat is.length)).mergeSort (fun a b => decide (a ≤ b))).map .int)) := by
        rw [← List.map_take]
        exact b_sorted (by rw [List.length_take]; omega)
      have hlr : opBi .lrange [.int (d : Int)] = some (.lst (rangeD d)) := by rw [b_lrange (by omega) (by omega)]; rfl
      simp only [exs, ex, ev, evs, rb_ok, rb_exc, ro_ok, ro_exc, ob_nx, ob_rt, ob_exc, oo_some, rs_some, an_nx, an_rt, an_exc, bi_some, bi_some', FD.start, List.map_cons, List.map_nil, List.length_cons, List.length_nil, List.cons_append, List.nil_append, List.replicate, List.getElem?_cons_zero, List.getElem?_cons_succ, List.set_cons_zero, List.set_cons_succ, asg, asgs, asgN, asgNs, T.names, T.namess, wipeE, frzE, Option.map_some, if_true, if_false, reduceCtorEq, Nat.zero_add, Nat.reduceAdd, Nat.reduceSub, Nat.reduceLT, Nat.reduceLeDiff, E.isNon, D.isI, Bool.false_or, Bool.true_or, Bool.not_true, Bool.not_false, Bool.true_and, Bool.false_and, Bool.and_true, Bool.or_false, Bool.or_true, Bool.false_eq_true, o_add, o_sub, c_eqI, c_neI, c_lt, c_le, c_gt, c_ge, c_is, c_isnot, b_lenL, b_lenT, b_int, b_tupL, b_tupT, b_lstL, b_lstT, i_sL, i_sT, i_eL, i_eT, slT, slLs, sl1, isiD, tyD, at31, at32, hlr, e1, e2, e3, sl_to cut, hsort]
      rw [o_addT (by simp; omega)]
      simp only [exs, ex, ev, evs, rb_ok, rb_exc, ro_ok, ro_exc, ob_nx, ob_rt, ob_exc, oo_some, rs_some, an_nx, an_rt, an_exc, bi_some, bi_some', FD.start, List.map_cons, List.map_nil, List.length_cons, List.length_nil, List.cons_append, List.nil_append, List.replicate, List.getElem?_cons_zero, List.getElem?_cons_succ, List.set_cons_zero, List.set_cons_succ, asg, asgs, asgN, asgNs, T.names, T.namess, wipeE, frzE, Option.map_some, if_true, if_false, reduceCtorEq, Nat.zero_add, Nat.reduceAdd, Nat.reduceSub, Nat.reduceLT, Nat.reduceLeDiff, E.isNon, D.isI, Bool.false_or, Bool.true_or, Bool.not_true, Bool.not_false, Bool.true_and, Bool.false_and, Bool.and_true, Bool.or_false, Bool.or_true, Bool.false_eq_true, o_add, o_sub, c_eqI, c_neI, c_lt, c_le, c_gt, c_ge, c_is, c_isnot, b_lenL, b_lenT, b_int, b_tupL, b_tupT, b_lstL, b_lstT, i_sL, i_sT, i_eL, i_eT, slT, slLs, sl1, isiD, tyD]
      refine ⟨_, _, rfl, acc ++ [(is.take (min j.toNat is.length)).mergeSort (fun a b => decide (a ≤ b))], s3, rfl, h3, by simp; omega, fun e he => ?_, .val (.int (x : Int)), .val (.lst ((is.map D.int).take (min j.toNat is.length))), by simp⟩
      rcases List.mem_append.mp he with z | z
      · exact hacc e z
      · simp only [List.mem_singleton] at z
        subst z
        refine ⟨fun i hi => hmem i (List.mem_of_mem_take ((List.mem_mergeSort).mp hi)), sort_lt (List.Nodup.sublist (List.take_sublist _ _) hnd), ?_⟩
        rw [List.length_mergeSort, List.length_take]
        omega)
  simp only [List.length_nil, Nat.add_zero] at hlen
  simp only [d__law_lock, exs, ex, ev, evs, rb_ok, rb_exc, ro_ok, ro_exc, ob_nx, ob_rt, ob_exc, oo_some, rs_some, an_nx, an_rt, an_exc, bi_some, bi_some', FD.start, List.map_cons, List.map_nil, List.length_cons, List.length_nil, List.cons_append, List.nil_append, List.replicate, List.getElem?_cons_zero, List.getElem?_cons_succ, List.set_cons_zero, List.set_cons_succ, asg, asgs, asgN, asgNs, T.names, T.namess, wipeE, frzE, Option.map_some, if_true, if_false, reduceCtorEq, Nat.zero_add, Nat.reduceAdd, Nat.reduceSub, Nat.reduceLT, Nat.reduceLeDiff, E.isNon, D.isI, Bool.false_or, Bool.true_or, Bool.not_true, Bool.not_false, Bool.true_and, Bool.false_and, Bool.and_true, Bool.or_false, Bool.or_true, Bool.false_eq_true, o_add, o_sub, c_eqI, c_neI, c_lt, c_le, c_gt, c_ge, c_is, c_isnot, b_lenL, b_lenT, b_int, b_tupL, b_tupT, b_lstL, b_lstT, i_sL, i_sT, i_eL, i_eT, slT, slLs, sl1, isiD, tyD, at30, i_rn (show (p : Int) ≤ 1000000 by omega) (show -1000000 ≤ (p : Int) by omega), Int.toNat_natCast] at e ⊢
  rw [e]
  simp only [exs, ex, ev, evs, rb_ok, rb_exc, ro_ok, ro_exc, ob_nx, ob_rt, ob_exc, oo_some, rs_some, an_nx, an_rt, an_exc, bi_some, bi_some', FD.start, List.map_cons, List.map_nil, List.length_cons, List.length_nil, List.cons_append, List.nil_append, List.replicate, List.getElem?_cons_zero, List.getElem?_cons_succ, List.set_cons_zero, List.set_cons_succ, asg, asgs, asgN, asgNs, T.names, T.namess, wipeE, frzE, Option.map_some, if_true, if_false, reduceCtorEq, Nat.zero_add, Nat.reduceAdd, Nat.reduceSub, Nat.reduceLT, Nat.reduceLeDiff, E.isNon, D.isI, Bool.false_or, Bool.true_or, Bool.not_true, Bool.not_false, Bool.true_and, Bool.false_and, Bool.and_true, Bool.or_false, Bool.or_true, Bool.false_eq_true, o_add, o_sub, c_eqI, c_neI, c_lt, c_le, c_gt, c_ge, c_is, c_isnot, b_lenL, b_lenT, b_int, b_tupL, b_tupT, b_lstL, b_lstT, i_sL, i_sT, i_eL, i_eT, slT, slLs, sl1, isiD, tyD]
  refine ⟨acc, s', rfl, hs', ?_, by omega, fun e he => by have := (hacc e he).2.2; omega⟩
  rw [lockB_int, hlen]
  simp only [beq_self_eq_true, Bool.true_and, List.all_eq_true, Bool.and_eq_true, decide_eq_true_eq]
  exact fun e he => ⟨⟨fun i hi => (hacc e he).1 i hi, (hacc e he).2.1⟩, by have := (hacc e he).2.2; omega⟩
end
end Mini
end
section
set_option Elab.async false
set_option linter.all false
set_option maxRecDepth 100000
set_option maxHeartbeats 2000000
/-! # least locks; keys counted -/
namespace Mini
open PySem Mini.P
/-- a comprehension whose turns draw -/
theorem compL_inv {α : Type} {enc : α → D} {turn : D → Store → R (Option D)} (Inv : Store → Prop) (Q : D → Prop) : ∀ {xs : List α} {st : Store}, Inv st → (∀ x st, Inv st → ∃ y st', turn (enc x) st = .ok (some y) st' ∧ Inv st' ∧ Q y) → ∃ ys st', compL turn (xs.map enc) st = .ok ys st' ∧ Inv st' ∧ (∀ y ∈ ys, Q y) ∧ ys.length = xs.length
  | [], st, h, _ => ⟨[], st, rfl, h, (fun y h => nomatch h), rfl⟩
  | x :: r, st, h, k => by
    obtain ⟨y, st1, e1, h1, q1⟩ := k x st h
    obtain ⟨ys, st2, e2, h2, q2, hl⟩ := compL_inv (xs := r) Inv Q h1 k
    refine ⟨y :: ys, st2, by simp only [List.map_cons, compL, e1, e2], h2, fun z hz => ?_, by simp [hl]⟩
    rcases List.mem_cons.mp hz with rfl | hz
    · exact q1
    · exact q2 z hz
theorem lift_list {α : Type} {enc : α → D} {Q : α → Prop} : ∀ {ys : List D}, (∀ y ∈ ys, ∃ a, y = enc a ∧ Q a) → ∃ as : List α, ys = as.map enc ∧ ∀ a ∈ as, Q a
  | [], _ => ⟨[], rfl, fun a h => nomatch h⟩
  | y :: r, h => by
    obtain ⟨a, rfl, ha⟩ := h y List.mem_cons_self
    obtain ⟨as, rfl, has⟩ := lift_list (ys := r) fun z hz => h z (List.mem_cons_of_mem _ hz)
    refine ⟨a :: as, rfl, fun b hb => ?_⟩
    rcases List.mem_cons.mp hb with rfl | hb
    · exact ha
    · exact has b hb
theorem dedup_len : ∀ l : List Int, (dedupI l).length ≤ l.length
  | [] => Nat.le_refl _
  | i :: r => by
    simp only [dedupI, List.length_cons]
    have := dedup_len r
    have := List.length_filter_le (fun x => decide (x ≠ i)) (dedupI r)
    omega
theorem sortU_len (l : List Int) : (sortU l).length ≤ l.length := by
  unfold sortU
  rw [List.length_mergeSort]
  exact dedup_len l
theorem intsOf_map : ∀ l : List Int, intsOf (l.map .int) = some l
  | [] => rfl
  | i :: r => by simp only [List.map_cons, intsOf, intsOf_map r, Option.map_some]
theorem b_sortedset {l : List Int} (h : l.length < 64) : opBi .sortedset [.lst (l.map .int)] = some (.lst ((sortU l).map .int)) := by
  show (intsOf _).bind _ = _
  rw [intsOf_map]
  show (if _ then _ else _) = _
  rw [if_pos h]
  rfl
theorem fits_app {k : List Int} {l : List (List Int)} {i : Int} {e : List Int} (h : k.length = l.length) : fitsB (k ++ [i]) (l ++ [e]) = (fitsB k l && e.contains i) := by
  unfold fitsB
  rw [List.zip_append h, List.all_append]
  simp
theorem range_count {d : Nat} {e : List Int} (hn : e.Nodup) (hr : ∀ i ∈ e, 0 ≤ i ∧ i < d) : (((List.range d).map fun (i : Nat) => (i : Int)).filter fun i => e.contains i).length = e.length := by
  apply List.Perm.length_eq
  rw [List.perm_ext_iff_of_nodup]
  · intro a
    simp only [List.mem_filter, List.mem_map, List.mem_range, List.contains_iff_mem]
    constructor
    · exact fun h => h.2
    · intro h
      have := hr a h
      exact ⟨⟨a.toNat, by omega, by omega⟩, h⟩
  · refine List.Pairwise.filter _ ?_
    show List.Nodup _
    rw [List.nodup_iff_pairwise_ne, List.pairwise_map]
    exact (List.pairwise_lt_range).imp fun h => by omega
  · exact hn
/-- as many keys fit as the product tells -/
theorem count_fits {d : Nat} : ∀ (n : Nat) (l : List (List Int)), l.length = n → (∀ e ∈ l, e.Nodup ∧ ∀ i ∈ e, 0 ≤ i ∧ i < d) → (((keysL d n).filter fun k => fitsB k l).length : Int) = prodB l
  | 0, l, h, _ => by
    have : l = [] := List.length_eq_zero_iff.mp h
    subst this
    rfl
  | n + 1, l, h, hg => by
    obtain ⟨l', e, rfl⟩ : ∃ l' e, l = l' ++ [e] := by
      have hne : l ≠ [] := fun z => by rw [z] at h; cases h
      exact ⟨l.dropLast, l.getLast hne, (List.dropLast_concat_getLast hne).symm⟩
    have hl' : l'.length = n := by simpa using h
    have ih := count_fits n l' hl' fun x hx => hg x (List.mem_append_left _ hx)
    have he := hg e (by simp)
    have ep : prodB (l' ++ [e]) = prodB l' * (e.length : Int) := by simp [prodB, List.foldl_append]
    rw [ep, ← ih, keysL]
    have key : ∀ (ks : List (List Int)), (∀ k ∈ ks, k.length = n) → ((ks.flatMap fun row => (List.range d).map fun (i : Nat) => row ++ [(i : Int)]).filter fun k => fitsB k (l' ++ [e])).length = (ks.filter fun k => fitsB k l').length * e.length := by
      intro ks
      induction ks with
      | nil => intro _; simp
      | cons k r ihr =>
        intro hk
        rw [List.flatMap_cons, List.filter_append, List.length_append, ihr fun x hx => hk x (List.mem_cons_of_mem _ hx), List.filter_cons]
        have hkl : k.length = l'.length := by rw [hl']; exact hk k List.mem_cons_self
        have e1 : ((List.range d).map fun (i : Nat) => k ++ [(i : Int)]).filter (fun k => fitsB k (l' ++ [e])) = (((List.range d).map fun (i : Nat) => (i : Int)).filter fun i => fitsB k l' && e.contains i).map fun i => k ++ [i] := by
          rw [List.filter_map, List.filter_map, List.map_map]
          congr 1
          apply List.filter_congr
          intro i _
          simp [Function.comp, fits_app hkl]
        rw [e1, List.length_map]
        cases fitsB k l' with
        | false => simp
        | true =>
          simp only [Bool.true_and, if_true, List.length_cons]
          rw [range_count he.1 he.2, Nat.add_mul, Nat.one_mul, Nat.add_comm]
    have := key (keysL d n) fun k hk => (keysL_len k hk).1
    rw [this]
    simp
theorem gLock_nodup {p d m : Nat} {l : List (List Int)} (h : gLock p d m l) : l.length = p ∧ ∀ e ∈ l, (e.Nodup ∧ ∀ i ∈ e, 0 ≤ i ∧ i < (d : Int)) ∧ e.length ≤ m := by
  have := h.1
  rw [lockB_int] at this
  simp only [Bool.and_eq_true, beq_iff_eq, List.all_eq_true, decide_eq_true_eq] at this
  refine ⟨by omega, fun e he => ?_⟩
  obtain ⟨⟨h1, h2⟩, h3⟩ := this.2 e he
  exact ⟨⟨List.Pairwise.imp (fun h => by omega) h2, fun i hi => by have := h1 i hi; omega⟩, by omega⟩
section
variable {P : Prog} {I : Ix} {w n : Nat} {st : Store}
theorem col_int {p : Nat} {ks : List (List Int)} (hk : ∀ k ∈ ks, k.length = p) {i : Nat} (hi : i < p) : ∀ k ∈ ks, atD (k.map D.int) (i : Int) = some (.int (k.getD i 0)) := fun k hkm => by
  have := hk k hkm
  rw [at_pos rfl (by simpa using (by omega : i < k.length))]
  simp [List.getElem?_eq_getElem (show i < k.length by omega)]
theorem s_least_lock (B : B0 P I) (K : B1 P I) (h18 : P.defs (I.fn 18) = some (d_least_lock I)) (h : 5 ≤ n) {p : Nat} {d m : Int} (hp : p ≤ 1000000) {ks : List (List Int)} (hk : ∀ k ∈ ks, gKey p d k ∧ k.length = p) (hl : ks.length < 64) :
    (callsN P w n).call (I.fn 18) [mkD I p d m, .lst (ks.map tI)] st = .ok (tTt (leastB p ks)) st := by
  obtain ⟨j, rfl⟩ := lev h
  rw [call_at h18 rfl]
  obtain ⟨ρ', e, a, b, rfl⟩ := forL_ok (st := st) (enc := tI) (turn := fun t ρ st => Out.ofOpt (asgN (.nm 2) t ρ) fun ρ1 => exs P (callsN P w (j + 4)) w [.ex (.call (I.fn 9) [.var 0, .var 2])] ρ1 st)
    (fun ρ => ∃ a b, ρ = [.val (mkD I p d m), .val (.lst (ks.map tI)), a, b]) (xs := ks) (ρ := [.val (mkD I p d m), .val (.lst (ks.map tI)), .no, .no]) ⟨_, _, rfl⟩ (by
      rintro x hx ρ ⟨a, b, rfl⟩
      simp only [exs, ex, ev, evs, rb_ok, rb_exc, ro_ok, ro_exc, ob_nx, ob_rt, ob_exc, oo_some, rs_some, an_nx, an_rt, an_exc, bi_some, bi_some', FD.start, List.map_cons, List.map_nil, List.length_cons, List.length_nil, List.cons_append, List.nil_append, List.replicate, List.getElem?_cons_zero, List.getElem?_cons_succ, List.set_cons_zero, List.set_cons_succ, asg, asgs, asgN, asgNs, T.names, T.namess, wipeE, frzE, Option.map_some, if_true, if_false, reduceCtorEq, Nat.zero_add, Nat.reduceAdd, Nat.reduceSub, Nat.reduceLT, Nat.reduceLeDiff, E.isNon, D.isI, Bool.false_or, Bool.true_or, Bool.not_true, Bool.not_false, Bool.true_and, Bool.false_and, Bool.and_true, Bool.or_false, Bool.or_true, Bool.false_eq_true, o_add, o_sub, c_eqI, c_neI, c_lt, c_le, c_gt, c_ge, c_is, c_isnot, b_lenL, b_lenT, b_int, b_tupL, b_tupT, b_lstL, b_lstT, i_sL, i_sT, i_eL, i_eT, slT, slLs, sl1, isiD, tyD, s_check_key' B K (show 4 ≤ j + 4 by omega) (hk x hx).1]
      exact ⟨_, rfl, _, _, rfl⟩)
  simp only [d_least_lock, exs, ex, ev, evs, rb_ok, rb_exc, ro_ok, ro_exc, ob_nx, ob_rt, ob_exc, oo_some, rs_some, an_nx, an_rt, an_exc, bi_some, bi_some', FD.start, List.map_cons, List.map_nil, List.length_cons, List.length_nil, List.cons_append, List.nil_append, List.replicate, List.getElem?_cons_zero, List.getElem?_cons_succ, List.set_cons_zero, List.set_cons_succ, asg, asgs, asgN, asgNs, T.names, T.namess, wipeE, frzE, Option.map_some, if_true, if_false, reduceCtorEq, Nat.zero_add, Nat.reduceAdd, Nat.reduceSub, Nat.reduceLT, Nat.reduceLeDiff, E.isNon, D.isI, Bool.false_or, Bool.true_or, Bool.not_true, Bool.not_false, Bool.true_and, Bool.false_and, Bool.and_true, Bool.or_false, Bool.or_true, Bool.false_eq_true, o_add, o_sub, c_eqI, c_neI, c_lt, c_le, c_gt, c_ge, c_is, c_isnot, b_lenL, b_lenT, b_int, b_tupL, b_tupT, b_lstL, b_lstT, i_sL, i_sT, i_eL, i_eT, slT, slLs, sl1, isiD, tyD, s_check_make B (show 1 ≤ j + 4 by omega)] at e ⊢
  rw [e]
  simp only [exs, ex, ev, evs, rb_ok, rb_exc, ro_ok, ro_exc, ob_nx, ob_rt, ob_exc, oo_some, rs_some, an_nx, an_rt, an_exc, bi_some, bi_some', FD.start, List.map_cons, List.map_nil, List.length_cons, List.length_nil, List.cons_append, List.nil_append, List.replicate, List.getElem?_cons_zero, List.getElem?_cons_succ, List.set_cons_zero, List.set_cons_succ, asg, asgs, asgN, asgNs, T.names, T.namess, wipeE, frzE, Option.map_some, if_true, if_false, reduceCtorEq, Nat.zero_add, Nat.reduceAdd, Nat.reduceSub, Nat.reduceLT, Nat.reduceLeDiff, E.isNon, D.isI, Bool.false_or, Bool.true_or, Bool.not_true, Bool.not_false, Bool.true_and, Bool.false_and, Bool.and_true, Bool.or_false, Bool.or_true, Bool.false_eq_true, o_add, o_sub, c_eqI, c_neI, c_lt, c_le, c_gt, c_ge, c_is, c_isnot, b_lenL, b_lenT, b_int, b_tupL, b_tupT, b_lstL, b_lstT, i_sL, i_sT, i_eL, i_eT, slT, slLs, sl1, isiD, tyD, gf0 B, i_rn (show (p : Int) ≤ 1000000 by omega) (show -1000000 ≤ (p : Int) by omega), Int.toNat_natCast]
  rw [compL_ofM (f := fun i => tI (sortU (ks.map fun k => k.getD i 0))) fun i hi => by
    have hi := List.mem_range.mp hi
    rw [compL_ofM (f := fun k => .int (k.getD i 0)) fun k hkm => by
      simp only [exs, ex, ev, evs, rb_ok, rb_exc, ro_ok, ro_exc, ob_nx, ob_rt, ob_exc, oo_some, rs_some, an_nx, an_rt, an_exc, bi_some, bi_some', FD.start, List.map_cons, List.map_nil, List.length_cons, List.length_nil, List.cons_append, List.nil_append, List.replicate, List.getElem?_cons_zero, List.getElem?_cons_succ, List.set_cons_zero, List.set_cons_succ, asg, asgs, asgN, asgNs, T.names, T.namess, wipeE, frzE, Option.map_some, if_true, if_false, reduceCtorEq, Nat.zero_add, Nat.reduceAdd, Nat.reduceSub, Nat.reduceLT, Nat.reduceLeDiff, E.isNon, D.isI, Bool.false_or, Bool.true_or, Bool.not_true, Bool.not_false, Bool.true_and, Bool.false_and, Bool.and_true, Bool.or_false, Bool.or_true, Bool.false_eq_true, o_add, o_sub, c_eqI, c_neI, c_lt, c_le, c_gt, c_ge, c_is, c_isnot, b_lenL, b_lenT, b_int, b_tupL, b_tupT, b_lstL, b_lstT, i_sL, i_sT, i_eL, i_eT, slT, slLs, sl1, isiD, tyD, col_int (fun k h => (hk k h).2) hi k hkm]]
    have hz : (ks.map fun k => D.int (k.getD i 0)).length ≤ maxLen := by
      rw [List.length_map]
      exact Nat.le_trans (Nat.le_of_lt hl) (by decide)
    have es : opBi .sortedset [.lst (ks.map fun k => D.int (k.getD i 0))] = some (.lst ((sortU (ks.map fun k => k.getD i 0)).map .int)) := by
      have := b_sortedset (l := ks.map fun k => k.getD i 0) (by simpa using hl)
      rw [List.map_map] at this
      exact this
    simp only [exs, ex, ev, evs, rb_ok, rb_exc, ro_ok, ro_exc, ob_nx, ob_rt, ob_exc, oo_some, rs_some, an_nx, an_rt, an_exc, bi_some, bi_some', FD.start, List.map_cons, List.map_nil, List.length_cons, List.length_nil, List.cons_append, List.nil_append, List.replicate, List.getElem?_cons_zero, List.getElem?_cons_succ, List.set_cons_zero, List.set_cons_succ, asg, asgs, asgN, asgNs, T.names, T.namess, wipeE, frzE, Option.map_some, if_true, if_false, reduceCtorEq, Nat.zero_add, Nat.reduceAdd, Nat.reduceSub, Nat.reduceLT, Nat.reduceLeDiff, E.isNon, D.isI, Bool.false_or, Bool.true_or, Bool.not_true, Bool.not_false, Bool.true_and, Bool.false_and, Bool.and_true, Bool.or_false, Bool.or_true, Bool.false_eq_true, o_add, o_sub, c_eqI, c_neI, c_lt, c_le, c_gt, c_ge, c_is, c_isnot, b_lenL, b_lenT, b_int, b_tupL, b_tupT, b_lstL, b_lstT, i_sL, i_sT, i_eL, i_eT, slT, slLs, sl1, isiD, tyD, hz, es]]
  have hz : ((List.range p).map fun i => tI (sortU (ks.map fun k => k.getD i 0))).length ≤ maxLen := by
    rw [List.length_map, List.length_range]
    exact hp
  simp only [exs, ex, ev, evs, rb_ok, rb_exc, ro_ok, ro_exc, ob_nx, ob_rt, ob_exc, oo_some, rs_some, an_nx, an_rt, an_exc, bi_some, bi_some', FD.start, List.map_cons, List.map_nil, List.length_cons, List.length_nil, List.cons_append, List.nil_append, List.replicate, List.getElem?_cons_zero, List.getElem?_cons_succ, List.set_cons_zero, List.set_cons_succ, asg, asgs, asgN, asgNs, T.names, T.namess, wipeE, frzE, Option.map_some, if_true, if_false, reduceCtorEq, Nat.zero_add, Nat.reduceAdd, Nat.reduceSub, Nat.reduceLT, Nat.reduceLeDiff, E.isNon, D.isI, Bool.false_or, Bool.true_or, Bool.not_true, Bool.not_false, Bool.true_and, Bool.false_and, Bool.and_true, Bool.or_false, Bool.or_true, Bool.false_eq_true, o_add, o_sub, c_eqI, c_neI, c_lt, c_le, c_gt, c_ge, c_is, c_isnot, b_lenL, b_lenT, b_int, b_tupL, b_tupT, b_lstL, b_lstT, i_sL, i_sT, i_eL, i_eT, slT, slLs, sl1, isiD, tyD, hz]
  simp [leastB, Function.comp_def]
theorem x_least_lock (B : B0 P I) (K : B1 P I) (h18 : P.defs (I.fn 18) = some (d_least_lock I)) (h : 5 ≤ n) {p d m : Int} {k : List Int} {t : D} (hk : gKey p d k) (ht : t.deep = true) (htl : t.items.length ≤ 1000000) (hb : keyB p d t = false) :
    (callsN P w n).call (I.fn 18) [mkD I p d m, .lst [tI k, t]] st = .exc (I.exc 4) t st := by
  obtain ⟨j, rfl⟩ := lev h
  rw [call_at h18 rfl]
  simp only [d_least_lock, exs, ex, ev, evs, rb_ok, rb_exc, ro_ok, ro_exc, ob_nx, ob_rt, ob_exc, oo_some, rs_some, an_nx, an_rt, an_exc, bi_some, bi_some', FD.start, List.map_cons, List.map_nil, List.length_cons, List.length_nil, List.cons_append, List.nil_append, List.replicate, List.getElem?_cons_zero, List.getElem?_cons_succ, List.set_cons_zero, List.set_cons_succ, asg, asgs, asgN, asgNs, T.names, T.namess, wipeE, frzE, Option.map_some, if_true, if_false, reduceCtorEq, Nat.zero_add, Nat.reduceAdd, Nat.reduceSub, Nat.reduceLT, Nat.reduceLeDiff, E.isNon, D.isI, Bool.false_or, Bool.true_or, Bool.not_true, Bool.not_false, Bool.true_and, Bool.false_and, Bool.and_true, Bool.or_false, Bool.or_true, Bool.false_eq_true, o_add, o_sub, c_eqI, c_neI, c_lt, c_le, c_gt, c_ge, c_is, c_isnot, b_lenL, b_lenT, b_int, b_tupL, b_tupT, b_lstL, b_lstT, i_sL, i_sT, i_eL, i_eT, slT, slLs, sl1, isiD, tyD, s_check_make B (show 1 ≤ j + 4 by omega), forL, s_check_key' B K (show 4 ≤ j + 4 by omega) hk, s_check_key B K (show 4 ≤ j + 4 by omega) ht htl, hb]
theorem s_law_least (h24 : P.defs (I.fn 24) = some (d__law_unlike I)) (h29 : P.defs (I.fn 29) = some (d__law_least I)) (h : 2 ≤ n) {p : Nat} {d m : Int} (hp : p ≤ 1000000) {ks : List (List Int)} (hk : ∀ k ∈ ks, k.length = p) (hl : ks.length ≤ 1000000) :
    (callsN P w n).call (I.fn 29) [mkT p d m, .lst (ks.map tI)] st = .ok (tTt (leastB p ks)) st := by
  obtain ⟨j, rfl⟩ := lev h
  rw [call_at h29 rfl]
  simp only [d__law_least, exs, ex, ev, evs, rb_ok, rb_exc, ro_ok, ro_exc, ob_nx, ob_rt, ob_exc, oo_some, rs_some, an_nx, an_rt, an_exc, bi_some, bi_some', FD.start, List.map_cons, List.map_nil, List.length_cons, List.length_nil, List.cons_append, List.nil_append, List.replicate, List.getElem?_cons_zero, List.getElem?_cons_succ, List.set_cons_zero, List.set_cons_succ, asg, asgs, asgN, asgNs, T.names, T.namess, wipeE, frzE, Option.map_some, if_true, if_false, reduceCtorEq, Nat.zero_add, Nat.reduceAdd, Nat.reduceSub, Nat.reduceLT, Nat.reduceLeDiff, E.isNon, D.isI, Bool.false_or, Bool.true_or, Bool.not_true, Bool.not_false, Bool.true_and, Bool.false_and, Bool.and_true, Bool.or_false, Bool.or_true, Bool.false_eq_true, o_add, o_sub, c_eqI, c_neI, c_lt, c_le, c_gt, c_ge, c_is, c_isnot, b_lenL, b_lenT, b_int, b_tupL, b_tupT, b_lstL, b_lstT, i_sL, i_sT, i_eL, i_eT, slT, slLs, sl1, isiD, tyD, at30, i_rn (show (p : Int) ≤ 1000000 by omega) (show -1000000 ≤ (p : Int) by omega), Int.toNat_natCast]
  rw [compL_ofM (f := fun i => tI (sortU (ks.map fun k => k.getD i 0))) fun i hi => by
    have hi := List.mem_range.mp hi
    rw [compL_ofM (f := fun k => .int (k.getD i 0)) fun k hkm => by
      simp only [exs, ex, ev, evs, rb_ok, rb_exc, ro_ok, ro_exc, ob_nx, ob_rt, ob_exc, oo_some, rs_some, an_nx, an_rt, an_exc, bi_some, bi_some', FD.start, List.map_cons, List.map_nil, List.length_cons, List.length_nil, List.cons_append, List.nil_append, List.replicate, List.getElem?_cons_zero, List.getElem?_cons_succ, List.set_cons_zero, List.set_cons_succ, asg, asgs, asgN, asgNs, T.names, T.namess, wipeE, frzE, Option.map_some, if_true, if_false, reduceCtorEq, Nat.zero_add, Nat.reduceAdd, Nat.reduceSub, Nat.reduceLT, Nat.reduceLeDiff, E.isNon, D.isI, Bool.false_or, Bool.true_or, Bool.not_true, Bool.not_false, Bool.true_and, Bool.false_and, Bool.and_true, Bool.or_false, Bool.or_true, Bool.false_eq_true, o_add, o_sub, c_eqI, c_neI, c_lt, c_le, c_gt, c_ge, c_is, c_isnot, b_lenL, b_lenT, b_int, b_tupL, b_tupT, b_lstL, b_lstT, i_sL, i_sT, i_eL, i_eT, slT, slLs, sl1, isiD, tyD, col_int hk hi k hkm]]
    have hz : (ks.map fun k => D.int (k.getD i 0)).length ≤ maxLen := by
      rw [List.length_map]
      exact hl
    have es := s_unlike (w := w) (st := st) (l := ks.map fun k => k.getD i 0) h24 (Nat.le_add_left 1 j) (.inl rfl) (by simpa using hl)
    rw [List.map_map] at es
    simp only [Function.comp_def] at es
    simp only [exs, ex, ev, evs, rb_ok, rb_exc, ro_ok, ro_exc, ob_nx, ob_rt, ob_exc, oo_some, rs_some, an_nx, an_rt, an_exc, bi_some, bi_some', FD.start, List.map_cons, List.map_nil, List.length_cons, List.length_nil, List.cons_append, List.nil_append, List.replicate, List.getElem?_cons_zero, List.getElem?_cons_succ, List.set_cons_zero, List.set_cons_succ, asg, asgs, asgN, asgNs, T.names, T.namess, wipeE, frzE, Option.map_some, if_true, if_false, reduceCtorEq, Nat.zero_add, Nat.reduceAdd, Nat.reduceSub, Nat.reduceLT, Nat.reduceLeDiff, E.isNon, D.isI, Bool.false_or, Bool.true_or, Bool.not_true, Bool.not_false, Bool.true_and, Bool.false_and, Bool.and_true, Bool.or_false, Bool.or_true, Bool.false_eq_true, o_add, o_sub, c_eqI, c_neI, c_lt, c_le, c_gt, c_ge, c_is, c_isnot, b_lenL, b_lenT, b_int, b_tupL, b_tupT, b_lstL, b_lstT, i_sL, i_sT, i_eL, i_eT, slT, slLs, sl1, isiD, tyD, hz, es]]
  have hz : ((List.range p).map fun i => tI (sortU (ks.map fun k => k.getD i 0))).length ≤ maxLen := by
    rw [List.length_map, List.length_range]
    exact hp
  simp only [exs, ex, ev, evs, rb_ok, rb_exc, ro_ok, ro_exc, ob_nx, ob_rt, ob_exc, oo_some, rs_some, an_nx, an_rt, an_exc, bi_some, bi_some', FD.start, List.map_cons, List.map_nil, List.length_cons, List.length_nil, List.cons_append, List.nil_append, List.replicate, List.getElem?_cons_zero, List.getElem?_cons_succ, List.set_cons_zero, List.set_cons_succ, asg, asgs, asgN, asgNs, T.names, T.namess, wipeE, frzE, Option.map_some, if_true, if_false, reduceCtorEq, Nat.zero_add, Nat.reduceAdd, Nat.reduceSub, Nat.reduceLT, Nat.reduceLeDiff, E.isNon, D.isI, Bool.false_or, Bool.true_or, Bool.not_true, Bool.not_false, Bool.true_and, Bool.false_and, Bool.and_true, Bool.or_false, Bool.or_true, Bool.false_eq_true, o_add, o_sub, c_eqI, c_neI, c_lt, c_le, c_gt, c_ge, c_is, c_isnot, b_lenL, b_lenT, b_int, b_tupL, b_tupT, b_lstL, b_lstT, i_sL, i_sT, i_eL, i_eT, slT, slLs, sl1, isiD, tyD, hz]
  simp [leastB, Function.comp_def]
end
end Mini
end
section
set_option Elab.async false
set_option linter.all false
set_option maxRecDepth 100000
set_option maxHeartbeats 2000000
/-! # making a make; all locks; words of refusals -/
namespace Mini
open PySem Mini.P
section
variable {P : Prog} {I : Ix} {w n : Nat} {st : Store}
theorem init_at {c : Nat} {fd : FD} {ds : List D} (h : P.defs (P.ini c) = some fd) (hl : ds.length + 1 = fd.np) : (callsN P w (n + 1)).init c ds st = (exs P (callsN P w n) w fd.body (fd.start (.ownI c [] :: ds.map .val)) st).made P c := by
  simp only [callsN, h, hl, if_true]
theorem sfI {c f : Nat} {fs : List D} {r : List Slot} {d : D} (h : (P.flds c)[fs.length]? = some f) : setFld P (.ownI c fs :: r) st 0 f d = some (.ownI c (fs ++ [d]) :: r, st) := by
  simp [setFld, h]
theorem mk_exc {α : Type} {c k : Nat} {d : D} : (Out.exc k d st).made P c = .exc k d st := rfl
theorem s_make (B : B0 P I) (h : 3 ≤ n) {a b c : D} (ha : a.gd = true) (hb : b.gd = true) (hc : c.gd = true) :
    (callsN P w n).init (I.cls 0) [a, b, c] st = if a.wi 1 3 then (if b.wi 1 4 then (match b with | .int bd => if c.wi 1 bd then .ok [a, b, c] st else .exc (I.exc 2) c st | _ => .bad) else .exc (I.exc 1) b st) else .exc (I.exc 0) a st := by
  obtain ⟨k, rfl⟩ := lev h
  rw [init_at (c := I.cls 0) (fd := d_Make_init I) (by rw [B.hI]; exact B.h6) rfl]
  have f0 : (P.flds (I.cls 0))[0]? = some 0 := by rw [B.hF]; rfl
  have f1 : (P.flds (I.cls 0))[1]? = some 1 := by rw [B.hF]; rfl
  have f2 : (P.flds (I.cls 0))[2]? = some 2 := by rw [B.hF]; rfl
  simp only [d_Make_init, exs, ex, ev, evs, rb_ok, rb_exc, ro_ok, ro_exc, ob_nx, ob_rt, ob_exc, oo_some, rs_some, an_nx, an_rt, an_exc, bi_some, bi_some', FD.start, List.map_cons, List.map_nil, List.length_cons, List.length_nil, List.cons_append, List.nil_append, List.replicate, List.getElem?_cons_zero, List.getElem?_cons_succ, List.set_cons_zero, List.set_cons_succ, asg, asgs, asgN, asgNs, T.names, T.namess, wipeE, frzE, Option.map_some, if_true, if_false, reduceCtorEq, Nat.zero_add, Nat.reduceAdd, Nat.reduceSub, Nat.reduceLT, Nat.reduceLeDiff, E.isNon, D.isI, Bool.false_or, Bool.true_or, Bool.not_true, Bool.not_false, Bool.true_and, Bool.false_and, Bool.and_true, Bool.or_false, Bool.or_true, Bool.false_eq_true, o_add, o_sub, c_eqI, c_neI, c_lt, c_le, c_gt, c_ge, c_is, c_isnot, b_lenL, b_lenT, b_int, b_tupL, b_tupT, b_lstL, b_lstT, i_sL, i_sT, i_eL, i_eT, slT, slLs, sl1, isiD, tyD, s_is_within B (Nat.le_add_left 2 k) ha]
  cases ea : a.wi 1 3 with
  | false => simp only [exs, ex, ev, evs, rb_ok, rb_exc, ro_ok, ro_exc, ob_nx, ob_rt, ob_exc, oo_some, rs_some, an_nx, an_rt, an_exc, bi_some, bi_some', FD.start, List.map_cons, List.map_nil, List.length_cons, List.length_nil, List.cons_append, List.nil_append, List.replicate, List.getElem?_cons_zero, List.getElem?_cons_succ, List.set_cons_zero, List.set_cons_succ, asg, asgs, asgN, asgNs, T.names, T.namess, wipeE, frzE, Option.map_some, if_true, if_false, reduceCtorEq, Nat.zero_add, Nat.reduceAdd, Nat.reduceSub, Nat.reduceLT, Nat.reduceLeDiff, E.isNon, D.isI, Bool.false_or, Bool.true_or, Bool.not_true, Bool.not_false, Bool.true_and, Bool.false_and, Bool.and_true, Bool.or_false, Bool.or_true, Bool.false_eq_true, o_add, o_sub, c_eqI, c_neI, c_lt, c_le, c_gt, c_ge, c_is, c_isnot, b_lenL, b_lenT, b_int, b_tupL, b_tupT, b_lstL, b_lstT, i_sL, i_sT, i_eL, i_eT, slT, slLs, sl1, isiD, tyD]; rfl
  | true =>
    simp only [exs, ex, ev, evs, rb_ok, rb_exc, ro_ok, ro_exc, ob_nx, ob_rt, ob_exc, oo_some, rs_some, an_nx, an_rt, an_exc, bi_some, bi_some', FD.start, List.map_cons, List.map_nil, List.length_cons, List.length_nil, List.cons_append, List.nil_append, List.replicate, List.getElem?_cons_zero, List.getElem?_cons_succ, List.set_cons_zero, List.set_cons_succ, asg, asgs, asgN, asgNs, T.names, T.namess, wipeE, frzE, Option.map_some, if_true, if_false, reduceCtorEq, Nat.zero_add, Nat.reduceAdd, Nat.reduceSub, Nat.reduceLT, Nat.reduceLeDiff, E.isNon, D.isI, Bool.false_or, Bool.true_or, Bool.not_true, Bool.not_false, Bool.true_and, Bool.false_and, Bool.and_true, Bool.or_false, Bool.or_true, Bool.false_eq_true, o_add, o_sub, c_eqI, c_neI, c_lt, c_le, c_gt, c_ge, c_is, c_isnot, b_lenL, b_lenT, b_int, b_tupL, b_tupT, b_lstL, b_lstT, i_sL, i_sT, i_eL, i_eT, slT, slLs, sl1, isiD, tyD, s_is_within B (Nat.le_add_left 2 k) hb]
    cases eb : b.wi 1 4 with
    | false => simp only [exs, ex, ev, evs, rb_ok, rb_exc, ro_ok, ro_exc, ob_nx, ob_rt, ob_exc, oo_some, rs_some, an_nx, an_rt, an_exc, bi_some, bi_some', FD.start, List.map_cons, List.map_nil, List.length_cons, List.length_nil, List.cons_append, List.nil_append, List.replicate, List.getElem?_cons_zero, List.getElem?_cons_succ, List.set_cons_zero, List.set_cons_succ, asg, asgs, asgN, asgNs, T.names, T.namess, wipeE, frzE, Option.map_some, if_true, if_false, reduceCtorEq, Nat.zero_add, Nat.reduceAdd, Nat.reduceSub, Nat.reduceLT, Nat.reduceLeDiff, E.isNon, D.isI, Bool.false_or, Bool.true_or, Bool.not_true, Bool.not_false, Bool.true_and, Bool.false_and, Bool.and_true, Bool.or_false, Bool.or_true, Bool.false_eq_true, o_add, o_sub, c_eqI, c_neI, c_lt, c_le, c_gt, c_ge, c_is, c_isnot, b_lenL, b_lenT, b_int, b_tupL, b_tupT, b_lstL, b_lstT, i_sL, i_sT, i_eL, i_eT, slT, slLs, sl1, isiD, tyD]; rfl
    | true =>
      cases b with
      | int bd =>
        simp only [exs, ex, ev, evs, rb_ok, rb_exc, ro_ok, ro_exc, ob_nx, ob_rt, ob_exc, oo_some, rs_some, an_nx, an_rt, an_exc, bi_some, bi_some', FD.start, List.map_cons, List.map_nil, List.length_cons, List.length_nil, List.cons_append, List.nil_append, List.replicate, List.getElem?_cons_zero, List.getElem?_cons_succ, List.set_cons_zero, List.set_cons_succ, asg, asgs, asgN, asgNs, T.names, T.namess, wipeE, frzE, Option.map_some, if_true, if_false, reduceCtorEq, Nat.zero_add, Nat.reduceAdd, Nat.reduceSub, Nat.reduceLT, Nat.reduceLeDiff, E.isNon, D.isI, Bool.false_or, Bool.true_or, Bool.not_true, Bool.not_false, Bool.true_and, Bool.false_and, Bool.and_true, Bool.or_false, Bool.or_true, Bool.false_eq_true, o_add, o_sub, c_eqI, c_neI, c_lt, c_le, c_gt, c_ge, c_is, c_isnot, b_lenL, b_lenT, b_int, b_tupL, b_tupT, b_lstL, b_lstT, i_sL, i_sT, i_eL, i_eT, slT, slLs, sl1, isiD, tyD, s_is_within B (Nat.le_add_left 2 k) hc]
        cases ec : c.wi 1 bd with
        | false => simp only [exs, ex, ev, evs, rb_ok, rb_exc, ro_ok, ro_exc, ob_nx, ob_rt, ob_exc, oo_some, rs_some, an_nx, an_rt, an_exc, bi_some, bi_some', FD.start, List.map_cons, List.map_nil, List.length_cons, List.length_nil, List.cons_append, List.nil_append, List.replicate, List.getElem?_cons_zero, List.getElem?_cons_succ, List.set_cons_zero, List.set_cons_succ, asg, asgs, asgN, asgNs, T.names, T.namess, wipeE, frzE, Option.map_some, if_true, if_false, reduceCtorEq, Nat.zero_add, Nat.reduceAdd, Nat.reduceSub, Nat.reduceLT, Nat.reduceLeDiff, E.isNon, D.isI, Bool.false_or, Bool.true_or, Bool.not_true, Bool.not_false, Bool.true_and, Bool.false_and, Bool.and_true, Bool.or_false, Bool.or_true, Bool.false_eq_true, o_add, o_sub, c_eqI, c_neI, c_lt, c_le, c_gt, c_ge, c_is, c_isnot, b_lenL, b_lenT, b_int, b_tupL, b_tupT, b_lstL, b_lstT, i_sL, i_sT, i_eL, i_eT, slT, slLs, sl1, isiD, tyD]; rfl
        | true =>
          simp only [exs, ex, ev, evs, rb_ok, rb_exc, ro_ok, ro_exc, ob_nx, ob_rt, ob_exc, oo_some, rs_some, an_nx, an_rt, an_exc, bi_some, bi_some', FD.start, List.map_cons, List.map_nil, List.length_cons, List.length_nil, List.cons_append, List.nil_append, List.replicate, List.getElem?_cons_zero, List.getElem?_cons_succ, List.set_cons_zero, List.set_cons_succ, asg, asgs, asgN, asgNs, T.names, T.namess, wipeE, frzE, Option.map_some, if_true, if_false, reduceCtorEq, Nat.zero_add, Nat.reduceAdd, Nat.reduceSub, Nat.reduceLT, Nat.reduceLeDiff, E.isNon, D.isI, Bool.false_or, Bool.true_or, Bool.not_true, Bool.not_false, Bool.true_and, Bool.false_and, Bool.and_true, Bool.or_false, Bool.or_true, Bool.false_eq_true, o_add, o_sub, c_eqI, c_neI, c_lt, c_le, c_gt, c_ge, c_is, c_isnot, b_lenL, b_lenT, b_int, b_tupL, b_tupT, b_lstL, b_lstT, i_sL, i_sT, i_eL, i_eT, slT, slLs, sl1, isiD, tyD]
          rw [sfI (fs := []) f0]
          simp only [exs, ex, ev, evs, rb_ok, rb_exc, ro_ok, ro_exc, ob_nx, ob_rt, ob_exc, oo_some, rs_some, an_nx, an_rt, an_exc, bi_some, bi_some', FD.start, List.map_cons, List.map_nil, List.length_cons, List.length_nil, List.cons_append, List.nil_append, List.replicate, List.getElem?_cons_zero, List.getElem?_cons_succ, List.set_cons_zero, List.set_cons_succ, asg, asgs, asgN, asgNs, T.names, T.namess, wipeE, frzE, Option.map_some, if_true, if_false, reduceCtorEq, Nat.zero_add, Nat.reduceAdd, Nat.reduceSub, Nat.reduceLT, Nat.reduceLeDiff, E.isNon, D.isI, Bool.false_or, Bool.true_or, Bool.not_true, Bool.not_false, Bool.true_and, Bool.false_and, Bool.and_true, Bool.or_false, Bool.or_true, Bool.false_eq_true, o_add, o_sub, c_eqI, c_neI, c_lt, c_le, c_gt, c_ge, c_is, c_isnot, b_lenL, b_lenT, b_int, b_tupL, b_tupT, b_lstL, b_lstT, i_sL, i_sT, i_eL, i_eT, slT, slLs, sl1, isiD, tyD]
          rw [sfI (fs := [a]) f1]
          simp only [exs, ex, ev, evs, rb_ok, rb_exc, ro_ok, ro_exc, ob_nx, ob_rt, ob_exc, oo_some, rs_some, an_nx, an_rt, an_exc, bi_some, bi_some', FD.start, List.map_cons, List.map_nil, List.length_cons, List.length_nil, List.cons_append, List.nil_append, List.replicate, List.getElem?_cons_zero, List.getElem?_cons_succ, List.set_cons_zero, List.set_cons_succ, asg, asgs, asgN, asgNs, T.names, T.namess, wipeE, frzE, Option.map_some, if_true, if_false, reduceCtorEq, Nat.zero_add, Nat.reduceAdd, Nat.reduceSub, Nat.reduceLT, Nat.reduceLeDiff, E.isNon, D.isI, Bool.false_or, Bool.true_or, Bool.not_true, Bool.not_false, Bool.true_and, Bool.false_and, Bool.and_true, Bool.or_false, Bool.or_true, Bool.false_eq_true, o_add, o_sub, c_eqI, c_neI, c_lt, c_le, c_gt, c_ge, c_is, c_isnot, b_lenL, b_lenT, b_int, b_tupL, b_tupT, b_lstL, b_lstT, i_sL, i_sT, i_eL, i_eT, slT, slLs, sl1, isiD, tyD]
          rw [sfI (fs := [a, .int bd]) f2]
          simp only [exs, ex, ev, evs, rb_ok, rb_exc, ro_ok, ro_exc, ob_nx, ob_rt, ob_exc, oo_some, rs_some, an_nx, an_rt, an_exc, bi_some, bi_some', FD.start, List.map_cons, List.map_nil, List.length_cons, List.length_nil, List.cons_append, List.nil_append, List.replicate, List.getElem?_cons_zero, List.getElem?_cons_succ, List.set_cons_zero, List.set_cons_succ, asg, asgs, asgN, asgNs, T.names, T.namess, wipeE, frzE, Option.map_some, if_true, if_false, reduceCtorEq, Nat.zero_add, Nat.reduceAdd, Nat.reduceSub, Nat.reduceLT, Nat.reduceLeDiff, E.isNon, D.isI, Bool.false_or, Bool.true_or, Bool.not_true, Bool.not_false, Bool.true_and, Bool.false_and, Bool.and_true, Bool.or_false, Bool.or_true, Bool.false_eq_true, o_add, o_sub, c_eqI, c_neI, c_lt, c_le, c_gt, c_ge, c_is, c_isnot, b_lenL, b_lenT, b_int, b_tupL, b_tupT, b_lstL, b_lstT, i_sL, i_sT, i_eL, i_eT, slT, slLs, sl1, isiD, tyD, Out.made, B.hF]
          rfl
      | _ => simp [D.wi] at eb
end
/-! ### all locks -/
abbrev rangeI (d : Nat) : List Int := (List.range d).map fun (i : Nat) => (i : Int)
def subsL : List Int → List (List Int)
  | [] => [[]]
  | x :: r => subsL r ++ (subsL r).map (x :: ·)
def rowsL {α : Type} (A : List α) : Nat → List (List α)
  | 0 => [[]]
  | k + 1 => (rowsL A k).flatMap fun r => A.map fun a => a :: r
theorem subs_mem {e l : List Int} (h : e.Sublist l) : e ∈ subsL l := by
  induction h with
  | slnil => simp [subsL]
  | cons x _ ih => simp only [subsL, List.mem_append]; exact .inl ih
  | cons_cons x _ ih => simp only [subsL, List.mem_append, List.mem_map]; exact .inr ⟨_, ih, rfl⟩
theorem rows_mem {α : Type} {A : List α} : ∀ {k : Nat} {l : List α}, l.length = k → (∀ e ∈ l, e ∈ A) → l ∈ rowsL A k
  | 0, l, h, _ => by
    have : l = [] := List.length_eq_zero_iff.mp h
    subst this
    simp [rowsL]
  | k + 1, [], h, _ => by cases h
  | k + 1, a :: r, h, ha => by
    simp only [rowsL, List.mem_flatMap, List.mem_map]
    exact ⟨r, rows_mem (by simpa using h) fun e he => ha e (List.mem_cons_of_mem _ he), a, ha a List.mem_cons_self, rfl⟩
theorem inc_sub {d : Nat} {e : List Int} (h : e.Pairwise (· < ·)) (hr : ∀ i ∈ e, 0 ≤ i ∧ i < (d : Int)) : e.Sublist (rangeI d) := by
  have h2 : (rangeI d).Pairwise (· < ·) := by
    rw [List.pairwise_map]
    exact (List.pairwise_lt_range).imp fun h => by omega
  have h3 : ((rangeI d).filter fun i => e.contains i).Pairwise (· < ·) := List.Pairwise.filter _ h2
  have nd : ∀ {l : List Int}, l.Pairwise (· < ·) → l.Nodup := fun h => List.Pairwise.imp (fun h => by omega) h
  have hp : e.Perm ((rangeI d).filter fun i => e.contains i) := (List.perm_ext_iff_of_nodup (nd h) (nd h3)).mpr fun a => by
    simp only [List.mem_filter, List.mem_map, List.mem_range, List.contains_iff_mem]
    constructor
    · intro ha
      have := hr a ha
      exact ⟨⟨a.toNat, by omega, by omega⟩, ha⟩
    · exact fun x => x.2
  have e1 : e = (rangeI d).filter fun i => e.contains i := hp.eq_of_pairwise (fun a b _ _ h1 h2 => by omega) h h3
  rw [e1]
  exact List.filter_sublist
theorem lock_mem {p d m : Nat} {l : List (List Int)} (h : gLock p d m l) : l ∈ rowsL (subsL (rangeI d)) p := by
  have z := h.1
  rw [lockB_int] at z
  simp only [Bool.and_eq_true, beq_iff_eq, List.all_eq_true, decide_eq_true_eq] at z
  refine rows_mem (by omega) fun e he => subs_mem ?_
  obtain ⟨⟨h1, h2⟩, h3⟩ := z.2 e he
  exact inc_sub h2 fun i hi => by have := h1 i hi; omega
/-! ### words -/
def reprOk (w : Str) (v : D) : Bool := match reprD (.tup [.str w, v]) with
  | some a => strOk a
  | none => false
theorem reprOk_ok {w : Str} {v : D} (h : reprOk w v = true) : ∃ a, reprD (.tup [.str w, v]) = some a ∧ strOk a = true := by
  unfold reprOk at h
  split at h
  · rename_i a e
    exact ⟨a, e, h⟩
  · cases h
theorem c_neS {x : Str} (h : strOk x = true) : opC .ne (.str x) (.str x) = some false := by
  show (eqD (.str x) (.str x)).map (!·) = _
  rw [show eqD (.str x) (.str x) = some true from c_eqS h]
  rfl
/-- a thing that is asked of its type at every place, not too long -/
def okThing (t : D) : Bool := t.deep && decide (t.items.length ≤ 1000000) && t.items.all fun e => decide (e.items.length ≤ 1000000)
theorem okThing_ok {t : D} (h : okThing t = true) : t.deep = true ∧ t.items.length ≤ 1000000 ∧ ∀ e ∈ t.items, e.items.length ≤ 1000000 := by
  unfold okThing at h
  simp only [Bool.and_eq_true, decide_eq_true_eq, List.all_eq_true] at h
  exact ⟨h.1.1, h.1.2, h.2⟩
abbrev repD (x : D) (p : Nat) : D := .tup (List.replicate p [x]).flatten
def nones (p d : Nat) : List D := [.non, .tup [], repD (.int d) p, .lst (List.replicate p [D.int 0]).flatten, .tup ((List.replicate p [D.int 0]).flatten ++ [.int 0]), repD .non p, repD (.bl true) p]
def bads (p d : Nat) (l : List (List Int)) : List D := [.non, .tup [], .lst (l.map tI), .tup (l.map tI ++ [tI [0]]), repD (.tup [.int d]) p, repD (.tup [.non]) p, repD (.lst [.int 0]) p]
def wrongs : List D := [.non, .int 3, .tup [.int 2, .int 2, .int 2], .str "make", .lst [], .dic [] []]
end Mini
end
section
set_option Elab.async false
set_option linter.all false
set_option maxRecDepth 100000
set_option maxHeartbeats 2000000
/-! # short words -/
namespace Mini
open PySem Mini.P
/-- a short word -/
def Wd (n : Nat) (x : Str) : Prop := x.length ≤ n ∧ strOk x = true
theorem Wd.mono {a b : Nat} {x : Str} (h : Wd a x) (l : a ≤ b) : Wd b x := ⟨Nat.le_trans h.1 l, h.2⟩
theorem Wd.app {a b : Nat} {x y : Str} (h : Wd a x) (k : Wd b y) : Wd (a + b) (x ++ y) := by
  constructor
  · have : (x ++ y).length = x.length + y.length := by
      show (x.cps ++ y.cps).size = _
      rw [Array.size_append]
      rfl
    have h1 := h.1
    have k1 := k.1
    omega
  · show (x.cps ++ y.cps).all _ = true
    rw [Array.all_append]
    have h2 : x.cps.all (· < 0x110000) = true := h.2
    have k2 : y.cps.all (· < 0x110000) = true := k.2
    rw [h2, k2]
    rfl
theorem ints_wd : ((List.range 41).all fun k => decide ((PyData.int ((k : Int) - 20)).shown.length ≤ 5) && strOk (PyData.int ((k : Int) - 20)).shown) = true := by decide +kernel
theorem int_wd {i : Int} (h : -20 ≤ i) (h' : i ≤ 20) : Wd 5 (PyData.int i).shown := by
  have z := List.all_eq_true.mp ints_wd (i + 20).toNat (List.mem_range.mpr (by omega))
  simp only [Bool.and_eq_true, decide_eq_true_eq] at z
  have e : (((i + 20).toNat : Nat) : Int) - 20 = i := by omega
  rw [e] at z
  exact z
theorem sep_wd : Wd 2 ((", " : String) : Str) := ⟨by decide +kernel, by decide +kernel⟩
theorem textFrom_wd {m : Nat} : ∀ (ts : List Str) (k n : Nat) (acc : Str), Wd n acc → (∀ t ∈ ts, Wd m t) → Wd (n + ts.length * (m + 2)) (textFrom k acc ts)
  | [], k, n, acc, h, _ => by simpa [textFrom] using h
  | t :: ts, k, n, acc, h, ht => by
    have hs : Wd 2 ((if k > 0 then ", " else "" : String) : Str) := by
      split
      · exact sep_wd
      · exact ⟨by decide +kernel, by decide +kernel⟩
    have := textFrom_wd ts (k + 1) _ _ ((h.app hs).app (ht t List.mem_cons_self)) fun u hu => ht u (List.mem_cons_of_mem _ hu)
    refine Wd.mono this ?_
    rw [List.length_cons, Nat.add_mul, Nat.one_mul]
    omega
theorem join_wd {m : Nat} : ∀ (ts : List Str), (∀ t ∈ ts, Wd m t) → Wd (ts.length * (m + 2)) (Str.join ((", " : String) : Str) ts)
  | [], _ => ⟨Nat.zero_le _, by decide +kernel⟩
  | [t], h => by
    show Wd _ t
    exact (h t List.mem_cons_self).mono (by simp)
  | t :: u :: r, h => by
    have ih := join_wd (u :: r) fun x hx => h x (List.mem_cons_of_mem _ hx)
    show Wd _ (t ++ ((", " : String) : Str) ++ Str.join ((", " : String) : Str) (u :: r))
    refine (((h t List.mem_cons_self).app sep_wd).app ih).mono ?_
    simp only [List.length_cons, Nat.add_mul, Nat.one_mul]
    omega
theorem listText_wd {m : Nat} {ts : List Str} (h : ∀ t ∈ ts, Wd m t) : Wd (ts.length * (m + 2) + 3) (listText ts) := by
  have a : Wd 1 (("[" : String) : Str) := ⟨by decide +kernel, by decide +kernel⟩
  have b : Wd 1 (("]" : String) : Str) := ⟨by decide +kernel, by decide +kernel⟩
  exact ((textFrom_wd ts 0 1 _ a h).app b).mono (by omega)
theorem tupleText_wd {m : Nat} {ts : List Str} (h : ∀ t ∈ ts, Wd m t) : Wd (ts.length * (m + 2) + 3) (tupleText ts) := by
  have a : Wd 1 (("(" : String) : Str) := ⟨by decide +kernel, by decide +kernel⟩
  have b : Wd 2 ((if ts.length == 1 then ",)" else ")" : String) : Str) := by
    split
    · exact ⟨by decide +kernel, by decide +kernel⟩
    · exact ⟨by decide +kernel, by decide +kernel⟩
  exact ((a.app (join_wd ts h)).app b).mono (by omega)
/-- small ints, none, truth values; k lists deep, of at most 20 things -/
def D.tn : Nat → D → Bool
  | _, .non => true
  | _, .bl _ => true
  | _, .int i => decide (-20 ≤ i) && decide (i ≤ 20)
  | k + 1, .lst l => decide (l.length ≤ 20) && l.all (D.tn k)
  | k + 1, .tup l => decide (l.length ≤ 20) && l.all (D.tn k)
  | _, _ => false
def Bw : Nat → Nat
  | 0 => 5
  | k + 1 => 20 * (Bw k + 2) + 3
theorem pyds_map : ∀ l : List D, D.pyds l = l.map D.pyd
  | [] => rfl
  | d :: r => by simp only [D.pyds, pyds_map r, List.map_cons]
theorem shownAll_map : ∀ l : List PyData, PyData.shownAll l = l.map PyData.shown
  | [] => rfl
  | d :: r => by simp only [PyData.shownAll, shownAll_map r, List.map_cons]
theorem showableAll_map : ∀ l : List PyData, PyData.showableAll l = l.all PyData.showable
  | [] => rfl
  | d :: r => by simp only [PyData.showableAll, showableAll_map r, List.all_cons]
theorem Bw_5 : ∀ k, 5 ≤ Bw k
  | 0 => Nat.le_refl _
  | k + 1 => by
    have := Bw_5 k
    show 5 ≤ 20 * (Bw k + 2) + 3
    omega
theorem log_small {i : Int} (h : -20 ≤ i) (h' : i ≤ 20) : (PyData.int i).showable = true := by
  show decide (i.natAbs.log2 < 1920) = true
  rw [decide_eq_true_eq]
  have : i.natAbs.log2 ≤ i.natAbs := Nat.log2_le_self _
  omega
theorem depthAll_le {n : Nat} : ∀ {l : List PyData}, (∀ d ∈ l, d.depth ≤ n) → PyData.depthAll l ≤ n
  | [], _ => Nat.zero_le _
  | d :: r, h => by
    simp only [PyData.depthAll]
    exact Nat.max_le.mpr ⟨h d List.mem_cons_self, depthAll_le fun e he => h e (List.mem_cons_of_mem _ he)⟩
theorem tn_ok : ∀ (k : Nat) (d : D), D.tn k d = true → Wd (Bw k) d.pyd.shown ∧ d.pyd.showable = true ∧ d.pyd.depth ≤ k + 1 ∧ d.plain = true := by
  intro k
  induction k with
  | zero =>
    intro d h
    cases d with
    | non => exact ⟨⟨by decide +kernel, by decide +kernel⟩, rfl, by decide +kernel, rfl⟩
    | bl b => cases b <;> exact ⟨⟨by decide +kernel, by decide +kernel⟩, rfl, by decide +kernel, rfl⟩
    | int i =>
      have h : -20 ≤ i ∧ i ≤ 20 := by simpa [D.tn] using h
      exact ⟨int_wd h.1 h.2, log_small h.1 h.2, by simp [D.pyd, PyData.depth], rfl⟩
    | _ => simp [D.tn] at h
  | succ k ih =>
    intro d h
    have b5 := Bw_5 (k + 1)
    have seq : ∀ l : List D, l.length ≤ 20 → (∀ x ∈ l, D.tn k x = true) → (∀ t ∈ (D.pyds l).map PyData.shown, Wd (Bw k) t) ∧ (D.pyds l).all PyData.showable = true ∧ PyData.depthAll (D.pyds l) ≤ k + 1 ∧ D.plains l = true ∧ ((D.pyds l).map PyData.shown).length ≤ 20 := fun l hl hx => by
      rw [pyds_map]
      refine ⟨fun t ht => ?_, ?_, depthAll_le fun d hd => ?_, plains_of fun x h => (ih x (hx x h)).2.2.2, by simpa using hl⟩
      · simp only [List.map_map, List.mem_map, Function.comp] at ht
        obtain ⟨x, h, rfl⟩ := ht
        exact (ih x (hx x h)).1
      · rw [List.all_map, List.all_eq_true]
        exact fun x h => (ih x (hx x h)).2.1
      · obtain ⟨x, h, rfl⟩ := List.mem_map.mp hd
        exact (ih x (hx x h)).2.2.1
    cases d with
    | non => exact ⟨(show Wd 5 _ from ⟨by decide +kernel, by decide +kernel⟩).mono b5, rfl, by simp [D.pyd, PyData.depth], rfl⟩
    | bl b => cases b <;> exact ⟨(show Wd 5 _ from ⟨by decide +kernel, by decide +kernel⟩).mono b5, rfl, by simp [D.pyd, PyData.depth], rfl⟩
    | int i =>
      have h : -20 ≤ i ∧ i ≤ 20 := by simpa [D.tn] using h
      exact ⟨(int_wd h.1 h.2).mono b5, log_small h.1 h.2, by simp [D.pyd, PyData.depth], rfl⟩
    | lst l =>
      have h : l.length ≤ 20 ∧ ∀ x ∈ l, D.tn k x = true := by simpa [D.tn] using h
      obtain ⟨s1, s2, s3, s4, s5⟩ := seq l h.1 h.2
      refine ⟨?_, ?_, ?_, by simpa [D.plain] using s4⟩
      · simp only [D.pyd, PyData.shown, shownAll_map]
        refine (listText_wd s1).mono ?_
        show _ ≤ 20 * (Bw k + 2) + 3
        exact Nat.add_le_add_right (Nat.mul_le_mul_right _ s5) _
      · simp only [D.pyd, PyData.showable, showableAll_map, s2]
      · simp only [D.pyd, PyData.depth]
        omega
    | tup l =>
      have h : l.length ≤ 20 ∧ ∀ x ∈ l, D.tn k x = true := by simpa [D.tn] using h
      obtain ⟨s1, s2, s3, s4, s5⟩ := seq l h.1 h.2
      refine ⟨?_, ?_, ?_, by simpa [D.plain] using s4⟩
      · simp only [D.pyd, PyData.shown, shownAll_map]
        refine (tupleText_wd s1).mono ?_
        show _ ≤ 20 * (Bw k + 2) + 3
        exact Nat.add_le_add_right (Nat.mul_le_mul_right _ s5) _
      · simp only [D.pyd, PyData.showable, showableAll_map, s2]
      · simp only [D.pyd, PyData.depth]
        omega
    | _ => simp [D.tn] at h
/-- a refusal's word -/
def wordOk (w : Str) : Bool := decide ((reprText w).length ≤ 40) && strOk (reprText w) && strOk w
theorem reprOk_tn {w : Str} {v : D} (hw : wordOk w = true) (hv : D.tn 3 v = true) : reprOk w v = true := by
  unfold wordOk at hw
  simp only [Bool.and_eq_true, decide_eq_true_eq] at hw
  obtain ⟨h1, h2, h3, h4⟩ := tn_ok 3 v hv
  have wd : Wd (2 * (Bw 3 + 2) + 3) (D.tup [.str w, v]).pyd.shown := by
    simp only [D.pyd, D.pyds, PyData.shown, PyData.shownAll]
    refine tupleText_wd (ts := [reprText w, v.pyd.shown]) fun t ht => ?_
    simp only [List.mem_cons, List.not_mem_nil, or_false] at ht
    rcases ht with rfl | rfl
    · exact ⟨Nat.le_trans hw.1.1 (by decide), hw.1.2⟩
    · exact h1
  have e1 : (D.tup [.str w, v]).plain = true := by simp [D.plain, D.plains, h4, hw.2]
  have e2 : (D.tup [.str w, v]).pyd.showable = true := by simp [D.pyd, D.pyds, PyData.showable, PyData.showableAll, h2]
  have e3 : (D.tup [.str w, v]).pyd.depth ≤ 60 := by
    simp only [D.pyd, D.pyds, PyData.depth, PyData.depthAll]
    omega
  have e4 : (D.tup [.str w, v]).pyd.shown.length ≤ maxLen := Nat.le_trans wd.1 (by decide)
  unfold reprOk reprD
  simp only [e1, e2, e3, e4, Bool.true_or, Bool.true_and, decide_true, if_true]
  exact wd.2
/-! ### the things that are refused -/
theorem ok_tTt {l : List (List Int)} (h : l.length ≤ 1000000) (hk : ∀ k ∈ l, k.length ≤ 1000000) : okThing (tTt l) = true := by
  unfold okThing
  simp only [Bool.and_eq_true, decide_eq_true_eq, List.all_eq_true]
  exact ⟨⟨deep_tT, by simpa [D.items] using h⟩, tT_he hk⟩
theorem tn_tI {k : Nat} {q : List Int} (h : q.length ≤ 20) (hq : ∀ i ∈ q, -20 ≤ i ∧ i ≤ 20) : D.tn (k + 1) (tI q) = true := by
  simp only [D.tn, Bool.and_eq_true, decide_eq_true_eq, List.length_map, List.all_eq_true, List.mem_map]
  refine ⟨h, ?_⟩
  rintro x ⟨i, hi, rfl⟩
  simpa [D.tn] using hq i hi
theorem tn_tTt {k : Nat} {l : List (List Int)} (h : l.length ≤ 20) (hl : ∀ q ∈ l, q.length ≤ 20 ∧ ∀ i ∈ q, -20 ≤ i ∧ i ≤ 20) : D.tn (k + 2) (tTt l) = true := by
  simp only [D.tn, Bool.and_eq_true, decide_eq_true_eq, List.length_map, List.all_eq_true, List.mem_map]
  refine ⟨h, ?_⟩
  rintro x ⟨q, hq, rfl⟩
  exact tn_tI (hl q hq).1 (hl q hq).2
theorem nones_ok : ([(1, 2), (1, 3), (2, 2), (2, 3), (3, 2), (1, 4)] : List (Nat × Nat)).all (fun q => (nones q.1 q.2).all fun t => okThing t && !keyB q.1 q.2 t && D.tn 3 t) = true := by decide +kernel
/-- those that have nothing of the lock -/
def bads1 (p d : Nat) : List D := [.non, .tup [], repD (.tup [.int d]) p, repD (.tup [.non]) p, repD (.lst [.int 0]) p]
def badOk (p d : Nat) (t : D) : Bool := okThing t && (List.range 5).all (fun m => !lockB p d m t) && D.tn 3 t
theorem bads1_ok : ([(1, 2), (1, 3), (2, 2), (2, 3), (3, 2), (1, 4)] : List (Nat × Nat)).all (fun q => (bads1 q.1 q.2).all fun t => badOk q.1 q.2 t) = true := by decide +kernel
theorem wrongs_ok : wrongs.all (fun t => t.gd && (match t with | .ins _ _ => false | _ => true) && reprOk "make" t) = true := by decide +kernel
theorem words_w : (["key", "lock", "pins", "depths", "most", "make", "locks", "other"] : List Str).all wordOk = true := by decide +kernel
theorem bads_ok {p d m : Nat} (h : (p, d) ∈ [(1, 2), (1, 3), (2, 2), (2, 3), (3, 2), (1, 4)]) (hm : m ≤ 4) {l : List (List Int)} (hl : gLock p d m l) {t : D} (ht : t ∈ bads p d l) : okThing t = true ∧ lockB p d m t = false ∧ D.tn 3 t = true := by
  have z1 := fun t ht => List.all_eq_true.mp (List.all_eq_true.mp bads1_ok (p, d) h) t ht
  have k1 : ∀ t, t ∈ bads1 p d → okThing t = true ∧ lockB p d m t = false ∧ D.tn 3 t = true := fun t ht => by
    have z := z1 t ht
    unfold badOk at z
    simp only [Bool.and_eq_true, Bool.not_eq_true', List.all_eq_true, List.mem_range] at z
    exact ⟨z.1.1, z.1.2 m (by omega), z.2⟩
  have hp : p ≤ 3 ∧ d ≤ 4 := by
    simp at h
    omega
  have gl := gLock_nodup hl
  have hle := hl.2.2
  have small : ∀ q ∈ l, q.length ≤ 20 ∧ ∀ i ∈ q, -20 ≤ i ∧ i ≤ 20 := fun q hq => by
    obtain ⟨⟨_, h2⟩, h3⟩ := gl.2 q hq
    exact ⟨by omega, fun i hi => by have := h2 i hi; omega⟩
  simp only [bads, List.mem_cons, List.not_mem_nil, or_false] at ht
  rcases ht with rfl | rfl | rfl | rfl | rfl | rfl | rfl
  · exact k1 _ (by simp [bads1])
  · exact k1 _ (by simp [bads1])
  · refine ⟨ok_tTt (l := l) hl.2.1 hle, rfl, ?_⟩
    have := tn_tTt (k := 1) (l := l) (by omega) small
    exact this
  · have e : D.tup (l.map tI ++ [tI [0]]) = tTt (l ++ [[0]]) := by simp
    rw [e]
    refine ⟨ok_tTt (by simp; omega) (fun q hq => ?_), ?_, tn_tTt (by simp; omega) fun q hq => ?_⟩
    · rcases List.mem_append.mp hq with z | z
      · exact hle q z
      · simp at z; subst z; simp
    · rw [lockB_int]
      have : ((((l ++ [[0]]).length : Nat) : Int) == (p : Int)) = false := by simp; omega
      rw [this]
      rfl
    · rcases List.mem_append.mp hq with z | z
      · exact small q z
      · simp at z; subst z; simp
  · exact k1 _ (by simp [bads1])
  · exact k1 _ (by simp [bads1])
  · exact k1 _ (by simp [bads1])
end Mini
end
section
set_option Elab.async false
set_option linter.all false
set_option maxRecDepth 100000
set_option maxHeartbeats 2000000
/-! # statements one behind another; refusals of the package's functions -/
namespace Mini
open PySem Mini.P
section
variable {P : Prog} {C : Calls} {W : Nat} {ρ ρ1 : Env} {st st1 : Store} {o : Out}
theorem seq_nx {s : S} {r : List S} (h : ex P C W s ρ st = .nx ρ1 st1) (h2 : exs P C W r ρ1 st1 = o) : exs P C W (s :: r) ρ st = o := by
  simp only [exs, h, Out.bind, h2]
theorem seq_if {c : E} {a b r : List S} (h : ev P C c ρ st = .ok (.bl false) st1) (hb : b = []) (h2 : exs P C W r ρ st1 = o) : exs P C W (.if_ c a b :: r) ρ st = o := by
  subst hb
  simp only [exs, ex, h, ro_ok, ob_nx, h2]
theorem forL_all {turn : D → Env → Store → Out} (G : Env → Prop) : ∀ {items : List D} {ρ : Env}, G ρ → (∀ x ∈ items, ∀ ρ, G ρ → ∃ ρ', turn x ρ st = .nx ρ' st ∧ G ρ') → ∃ ρ', forL turn items ρ st = .nx ρ' st ∧ G ρ'
  | [], ρ, h, _ => ⟨ρ, rfl, h⟩
  | x :: r, ρ, h, k => by
    obtain ⟨ρ1, e1, h1⟩ := k x List.mem_cons_self ρ h
    obtain ⟨ρ2, e2, h2⟩ := forL_all G (items := r) h1 fun y hy => k y (List.mem_cons_of_mem _ hy)
    exact ⟨ρ2, by simp only [forL, e1, Out.bind, e2], h2⟩
theorem seq_for {t : T} {ik : ItK} {src : List E} {body r : List S} {ds items : List D} (G : Env → Prop) (h : evs P C src ρ st = .ok ds st1) (hi : itD ik ds = some items) (hG : G ρ)
    (k : ∀ x ∈ items, ∀ ρ, G ρ → ∃ ρ', (Out.ofOpt (asgN t x ρ) fun ρ1 => exs P C W body ρ1 st1) = .nx ρ' st1 ∧ G ρ') (h2 : ∀ ρ', G ρ' → exs P C W r ρ' st1 = o) : exs P C W (.for_ t ik src body :: r) ρ st = o := by
  obtain ⟨ρ', e, hG'⟩ := forL_all (st := st1) (turn := fun d ρ st => Out.ofOpt (asgN t d ρ) fun ρ1 => exs P C W body ρ1 st) G hG k
  simp only [exs, ex, h, ro_ok, hi, oo_some, e, ob_nx, h2 ρ' hG']
theorem ev_ref {f c : Nat} {a : E} {cl : Clauses} {w : Str} {v : D} (hH : P.hand f = some cl) (h : ev P C a ρ st = .exc c v st) (hl : cl.lookup c = some w) : ev P C (.refused f a) ρ st = .ok (.tup [.str w, v]) st := by
  simp only [ev, hH, h, toldBy, hl]
theorem ref_ne {x y : E} {w : Str} {v : D} (h1 : ev P C x ρ st = .ok (.tup [.str w, v]) st) (h2 : ev P C y ρ st = .ok (.tup [.str w, v]) st) (h : reprOk w v = true) : ev P C (.cmp .ne (.bi .repr [x]) (.bi .repr [y])) ρ st = .ok (.bl false) st := by
  obtain ⟨a, e1, e2⟩ := reprOk_ok h
  simp only [exs, ex, ev, evs, rb_ok, rb_exc, ro_ok, ro_exc, ob_nx, ob_rt, ob_exc, oo_some, rs_some, an_nx, an_rt, an_exc, bi_some, bi_some', FD.start, List.map_cons, List.map_nil, List.length_cons, List.length_nil, List.cons_append, List.nil_append, List.replicate, List.getElem?_cons_zero, List.getElem?_cons_succ, List.set_cons_zero, List.set_cons_succ, asg, asgs, asgN, asgNs, T.names, T.namess, wipeE, frzE, Option.map_some, if_true, if_false, reduceCtorEq, Nat.zero_add, Nat.reduceAdd, Nat.reduceSub, Nat.reduceLT, Nat.reduceLeDiff, E.isNon, D.isI, Bool.false_or, Bool.true_or, Bool.not_true, Bool.not_false, Bool.true_and, Bool.false_and, Bool.and_true, Bool.or_false, Bool.or_true, Bool.false_eq_true, o_add, o_sub, c_eqI, c_neI, c_lt, c_le, c_gt, c_ge, c_is, c_isnot, b_lenL, b_lenT, b_int, b_tupL, b_tupT, b_lstL, b_lstT, i_sL, i_sT, i_eL, i_eT, slT, slLs, sl1, isiD, tyD, h1, h2, b_repr, e1, c_neS e2]
end
section
variable {P : Prog} {I : Ix} {w n : Nat} {st : Store}
/-- none of the makes -/
def noMk (t : D) : Prop := t.gd = true ∧ ∀ c fs, t ≠ .ins c fs
theorem w_all_keys (B : B0 P I) (L : B2 P I) (h : 2 ≤ n) {t : D} (ht : noMk t) : (callsN P w n).call (I.fn 13) [t] st = .exc (I.exc 3) t st := by
  obtain ⟨k, rfl⟩ := lev h
  rw [call_at L.h13 rfl]
  simp only [d_all_keys, exs, ex, ev, evs, rb_ok, rb_exc, ro_ok, ro_exc, ob_nx, ob_rt, ob_exc, oo_some, rs_some, an_nx, an_rt, an_exc, bi_some, bi_some', FD.start, List.map_cons, List.map_nil, List.length_cons, List.length_nil, List.cons_append, List.nil_append, List.replicate, List.getElem?_cons_zero, List.getElem?_cons_succ, List.set_cons_zero, List.set_cons_succ, asg, asgs, asgN, asgNs, T.names, T.namess, wipeE, frzE, Option.map_some, if_true, if_false, reduceCtorEq, Nat.zero_add, Nat.reduceAdd, Nat.reduceSub, Nat.reduceLT, Nat.reduceLeDiff, E.isNon, D.isI, Bool.false_or, Bool.true_or, Bool.not_true, Bool.not_false, Bool.true_and, Bool.false_and, Bool.and_true, Bool.or_false, Bool.or_true, Bool.false_eq_true, o_add, o_sub, c_eqI, c_neI, c_lt, c_le, c_gt, c_ge, c_is, c_isnot, b_lenL, b_lenT, b_int, b_tupL, b_tupT, b_lstL, b_lstT, i_sL, i_sT, i_eL, i_eT, slT, slLs, sl1, isiD, tyD, x_check_make B (show 1 ≤ k + 1 by omega) ht.1 ht.2]
theorem w_is_key (B : B0 P I) (h : 2 ≤ n) {t u : D} (ht : noMk t) : (callsN P w n).call (I.fn 8) [t, u] st = .exc (I.exc 3) t st := by
  obtain ⟨k, rfl⟩ := lev h
  rw [call_at B.h8 rfl]
  simp only [d_is_key, exs, ex, ev, evs, rb_ok, rb_exc, ro_ok, ro_exc, ob_nx, ob_rt, ob_exc, oo_some, rs_some, an_nx, an_rt, an_exc, bi_some, bi_some', FD.start, List.map_cons, List.map_nil, List.length_cons, List.length_nil, List.cons_append, List.nil_append, List.replicate, List.getElem?_cons_zero, List.getElem?_cons_succ, List.set_cons_zero, List.set_cons_succ, asg, asgs, asgN, asgNs, T.names, T.namess, wipeE, frzE, Option.map_some, if_true, if_false, reduceCtorEq, Nat.zero_add, Nat.reduceAdd, Nat.reduceSub, Nat.reduceLT, Nat.reduceLeDiff, E.isNon, D.isI, Bool.false_or, Bool.true_or, Bool.not_true, Bool.not_false, Bool.true_and, Bool.false_and, Bool.and_true, Bool.or_false, Bool.or_true, Bool.false_eq_true, o_add, o_sub, c_eqI, c_neI, c_lt, c_le, c_gt, c_ge, c_is, c_isnot, b_lenL, b_lenT, b_int, b_tupL, b_tupT, b_lstL, b_lstT, i_sL, i_sT, i_eL, i_eT, slT, slLs, sl1, isiD, tyD, x_check_make B (show 1 ≤ k + 1 by omega) ht.1 ht.2]
theorem w_is_lock (B : B0 P I) (L : B2 P I) (h : 2 ≤ n) {t u : D} (ht : noMk t) : (callsN P w n).call (I.fn 10) [t, u] st = .exc (I.exc 3) t st := by
  obtain ⟨k, rfl⟩ := lev h
  rw [call_at L.h10 rfl]
  simp only [d_is_lock, exs, ex, ev, evs, rb_ok, rb_exc, ro_ok, ro_exc, ob_nx, ob_rt, ob_exc, oo_some, rs_some, an_nx, an_rt, an_exc, bi_some, bi_some', FD.start, List.map_cons, List.map_nil, List.length_cons, List.length_nil, List.cons_append, List.nil_append, List.replicate, List.getElem?_cons_zero, List.getElem?_cons_succ, List.set_cons_zero, List.set_cons_succ, asg, asgs, asgN, asgNs, T.names, T.namess, wipeE, frzE, Option.map_some, if_true, if_false, reduceCtorEq, Nat.zero_add, Nat.reduceAdd, Nat.reduceSub, Nat.reduceLT, Nat.reduceLeDiff, E.isNon, D.isI, Bool.false_or, Bool.true_or, Bool.not_true, Bool.not_false, Bool.true_and, Bool.false_and, Bool.and_true, Bool.or_false, Bool.or_true, Bool.false_eq_true, o_add, o_sub, c_eqI, c_neI, c_lt, c_le, c_gt, c_ge, c_is, c_isnot, b_lenL, b_lenT, b_int, b_tupL, b_tupT, b_lstL, b_lstT, i_sL, i_sT, i_eL, i_eT, slT, slLs, sl1, isiD, tyD, x_check_make B (show 1 ≤ k + 1 by omega) ht.1 ht.2]
theorem w_least (B : B0 P I) (h18 : P.defs (I.fn 18) = some (d_least_lock I)) (h : 2 ≤ n) {t u : D} (ht : noMk t) : (callsN P w n).call (I.fn 18) [t, u] st = .exc (I.exc 3) t st := by
  obtain ⟨k, rfl⟩ := lev h
  rw [call_at h18 rfl]
  simp only [d_least_lock, exs, ex, ev, evs, rb_ok, rb_exc, ro_ok, ro_exc, ob_nx, ob_rt, ob_exc, oo_some, rs_some, an_nx, an_rt, an_exc, bi_some, bi_some', FD.start, List.map_cons, List.map_nil, List.length_cons, List.length_nil, List.cons_append, List.nil_append, List.replicate, List.getElem?_cons_zero, List.getElem?_cons_succ, List.set_cons_zero, List.set_cons_succ, asg, asgs, asgN, asgNs, T.names, T.namess, wipeE, frzE, Option.map_some, if_true, if_false, reduceCtorEq, Nat.zero_add, Nat.reduceAdd, Nat.reduceSub, Nat.reduceLT, Nat.reduceLeDiff, E.isNon, D.isI, Bool.false_or, Bool.true_or, Bool.not_true, Bool.not_false, Bool.true_and, Bool.false_and, Bool.and_true, Bool.or_false, Bool.or_true, Bool.false_eq_true, o_add, o_sub, c_eqI, c_neI, c_lt, c_le, c_gt, c_ge, c_is, c_isnot, b_lenL, b_lenT, b_int, b_tupL, b_tupT, b_lstL, b_lstT, i_sL, i_sT, i_eL, i_eT, slT, slLs, sl1, isiD, tyD, x_check_make B (show 1 ≤ k + 1 by omega) ht.1 ht.2]
theorem w_count (B : B0 P I) (L : B2 P I) (M : B3 P I) (h : 4 ≤ n) {t u : D} (ht : noMk t) : (callsN P w n).call (I.fn 17) [t, u] st = .exc (I.exc 3) t st := by
  obtain ⟨k, rfl⟩ := lev h
  rw [call_at M.h17 rfl]
  have e : (callsN P w (k + 3)).call (I.fn 11) [t, u] st = .exc (I.exc 3) t st := by
    rw [call_at M.h11 rfl]
    simp only [d_check_lock, exs, ex, ev, evs, rb_ok, rb_exc, ro_ok, ro_exc, ob_nx, ob_rt, ob_exc, oo_some, rs_some, an_nx, an_rt, an_exc, bi_some, bi_some', FD.start, List.map_cons, List.map_nil, List.length_cons, List.length_nil, List.cons_append, List.nil_append, List.replicate, List.getElem?_cons_zero, List.getElem?_cons_succ, List.set_cons_zero, List.set_cons_succ, asg, asgs, asgN, asgNs, T.names, T.namess, wipeE, frzE, Option.map_some, if_true, if_false, reduceCtorEq, Nat.zero_add, Nat.reduceAdd, Nat.reduceSub, Nat.reduceLT, Nat.reduceLeDiff, E.isNon, D.isI, Bool.false_or, Bool.true_or, Bool.not_true, Bool.not_false, Bool.true_and, Bool.false_and, Bool.and_true, Bool.or_false, Bool.or_true, Bool.false_eq_true, o_add, o_sub, c_eqI, c_neI, c_lt, c_le, c_gt, c_ge, c_is, c_isnot, b_lenL, b_lenT, b_int, b_tupL, b_tupT, b_lstL, b_lstT, i_sL, i_sT, i_eL, i_eT, slT, slLs, sl1, isiD, tyD, w_is_lock B L (show 2 ≤ k + 2 by omega) ht]
  simp only [d_count_keys, exs, ex, ev, evs, rb_ok, rb_exc, ro_ok, ro_exc, ob_nx, ob_rt, ob_exc, oo_some, rs_some, an_nx, an_rt, an_exc, bi_some, bi_some', FD.start, List.map_cons, List.map_nil, List.length_cons, List.length_nil, List.cons_append, List.nil_append, List.replicate, List.getElem?_cons_zero, List.getElem?_cons_succ, List.set_cons_zero, List.set_cons_succ, asg, asgs, asgN, asgNs, T.names, T.namess, wipeE, frzE, Option.map_some, if_true, if_false, reduceCtorEq, Nat.zero_add, Nat.reduceAdd, Nat.reduceSub, Nat.reduceLT, Nat.reduceLeDiff, E.isNon, D.isI, Bool.false_or, Bool.true_or, Bool.not_true, Bool.not_false, Bool.true_and, Bool.false_and, Bool.and_true, Bool.or_false, Bool.or_true, Bool.false_eq_true, o_add, o_sub, c_eqI, c_neI, c_lt, c_le, c_gt, c_ge, c_is, c_isnot, b_lenL, b_lenT, b_int, b_tupL, b_tupT, b_lstL, b_lstT, i_sL, i_sT, i_eL, i_eT, slT, slLs, sl1, isiD, tyD, e]
theorem x_doors_key (B : B0 P I) (K : B1 P I) (h16 : P.defs (I.fn 16) = some (d_doors_of I)) (h : 5 ≤ n) {p d m : Int} {t u : D} (ht : t.deep = true) (htl : t.items.length ≤ 1000000) (hk : keyB p d t = false) :
    (callsN P w n).call (I.fn 16) [mkD I p d m, t, u] st = .exc (I.exc 4) t st := by
  obtain ⟨j, rfl⟩ := lev h
  rw [call_at h16 rfl]
  simp only [d_doors_of, exs, ex, ev, evs, rb_ok, rb_exc, ro_ok, ro_exc, ob_nx, ob_rt, ob_exc, oo_some, rs_some, an_nx, an_rt, an_exc, bi_some, bi_some', FD.start, List.map_cons, List.map_nil, List.length_cons, List.length_nil, List.cons_append, List.nil_append, List.replicate, List.getElem?_cons_zero, List.getElem?_cons_succ, List.set_cons_zero, List.set_cons_succ, asg, asgs, asgN, asgNs, T.names, T.namess, wipeE, frzE, Option.map_some, if_true, if_false, reduceCtorEq, Nat.zero_add, Nat.reduceAdd, Nat.reduceSub, Nat.reduceLT, Nat.reduceLeDiff, E.isNon, D.isI, Bool.false_or, Bool.true_or, Bool.not_true, Bool.not_false, Bool.true_and, Bool.false_and, Bool.and_true, Bool.or_false, Bool.or_true, Bool.false_eq_true, o_add, o_sub, c_eqI, c_neI, c_lt, c_le, c_gt, c_ge, c_is, c_isnot, b_lenL, b_lenT, b_int, b_tupL, b_tupT, b_lstL, b_lstT, i_sL, i_sT, i_eL, i_eT, slT, slLs, sl1, isiD, tyD, s_check_key B K (show 4 ≤ j + 4 by omega) ht htl, hk]
theorem x_doors_locks (B : B0 P I) (K : B1 P I) (L : B2 P I) (h16 : P.defs (I.fn 16) = some (d_doors_of I)) (h : 6 ≤ n) {p d m : Int} {k : List Int} {t v : D} (hk : gKey p d k) (ht : t.deep = true) (hl : t.items.length ≤ 1000000) (he : ∀ e ∈ t.items, e.items.length ≤ 1000000 ∧ ∀ e' ∈ e.items, e'.items.length ≤ 1000000) (hv : locksR p d m t = some v) :
    (callsN P w n).call (I.fn 16) [mkD I p d m, tI k, t] st = .exc (I.exc 6) v st := by
  obtain ⟨j, rfl⟩ := lev h
  rw [call_at h16 rfl]
  simp only [d_doors_of, exs, ex, ev, evs, rb_ok, rb_exc, ro_ok, ro_exc, ob_nx, ob_rt, ob_exc, oo_some, rs_some, an_nx, an_rt, an_exc, bi_some, bi_some', FD.start, List.map_cons, List.map_nil, List.length_cons, List.length_nil, List.cons_append, List.nil_append, List.replicate, List.getElem?_cons_zero, List.getElem?_cons_succ, List.set_cons_zero, List.set_cons_succ, asg, asgs, asgN, asgNs, T.names, T.namess, wipeE, frzE, Option.map_some, if_true, if_false, reduceCtorEq, Nat.zero_add, Nat.reduceAdd, Nat.reduceSub, Nat.reduceLT, Nat.reduceLeDiff, E.isNon, D.isI, Bool.false_or, Bool.true_or, Bool.not_true, Bool.not_false, Bool.true_and, Bool.false_and, Bool.and_true, Bool.or_false, Bool.or_true, Bool.false_eq_true, o_add, o_sub, c_eqI, c_neI, c_lt, c_le, c_gt, c_ge, c_is, c_isnot, b_lenL, b_lenT, b_int, b_tupL, b_tupT, b_lstL, b_lstT, i_sL, i_sT, i_eL, i_eT, slT, slLs, sl1, isiD, tyD, s_check_key' B K (show 4 ≤ j + 5 by omega) hk, s_check_locks B L (show 5 ≤ j + 5 by omega) ht hl he, hv]
theorem x_common (B : B0 P I) (L : B2 P I) (M : B3 P I) (h20 : P.defs (I.fn 20) = some (d_common_keys I)) (h : 6 ≤ n) {p d m : Int} {l : List (List Int)} {t : D} (hl : gLock p d m l) (ht : t.deep = true) (htl : t.items.length ≤ 1000000) (he : ∀ e ∈ t.items, e.items.length ≤ 1000000) (hb : lockB p d m t = false) :
    (callsN P w n).call (I.fn 20) [mkD I p d m, tTt l, t] st = .exc (I.exc 5) t st := by
  obtain ⟨j, rfl⟩ := lev h
  rw [call_at h20 rfl]
  simp only [d_common_keys, exs, ex, ev, evs, rb_ok, rb_exc, ro_ok, ro_exc, ob_nx, ob_rt, ob_exc, oo_some, rs_some, an_nx, an_rt, an_exc, bi_some, bi_some', FD.start, List.map_cons, List.map_nil, List.length_cons, List.length_nil, List.cons_append, List.nil_append, List.replicate, List.getElem?_cons_zero, List.getElem?_cons_succ, List.set_cons_zero, List.set_cons_succ, asg, asgs, asgN, asgNs, T.names, T.namess, wipeE, frzE, Option.map_some, if_true, if_false, reduceCtorEq, Nat.zero_add, Nat.reduceAdd, Nat.reduceSub, Nat.reduceLT, Nat.reduceLeDiff, E.isNon, D.isI, Bool.false_or, Bool.true_or, Bool.not_true, Bool.not_false, Bool.true_and, Bool.false_and, Bool.and_true, Bool.or_false, Bool.or_true, Bool.false_eq_true, o_add, o_sub, c_eqI, c_neI, c_lt, c_le, c_gt, c_ge, c_is, c_isnot, b_lenL, b_lenT, b_int, b_tupL, b_tupT, b_lstL, b_lstT, i_sL, i_sT, i_eL, i_eT, slT, slLs, sl1, isiD, tyD, s_check_lock B L M (show 5 ≤ j + 5 by omega) hl, x_check_lock B L M (show 5 ≤ j + 5 by omega) ht htl he, hb]
end
end Mini
end
section
set_option Elab.async false
set_option linter.all false
set_option maxRecDepth 100000
set_option maxHeartbeats 4000000
/-! # law k00: refusals -/
namespace Mini.K00
open PySem Mini Mini.P
theorem b0 : B0 pr ix := ⟨rfl, rfl, rfl, rfl, rfl, rfl, rfl, rfl, rfl, rfl⟩
theorem b1 : B1 pr ix := ⟨rfl, rfl⟩
theorem b2 : B2 pr ix := ⟨rfl, rfl, rfl, rfl, rfl⟩
theorem b3 : B3 pr ix := ⟨rfl, rfl⟩
theorem bl : BL pr ix := ⟨rfl, rfl⟩
def cl : Clauses := [(0, "pins"), (1, "depths"), (2, "most"), (3, "make"), (4, "key"), (5, "lock"), (6, "locks")]
theorem hH : pr.hand (ix.fn 36) = some cl := rfl
theorem k0 : cl.lookup (ix.exc 0) = some "pins" := rfl
theorem k1 : cl.lookup (ix.exc 1) = some "depths" := rfl
theorem k2 : cl.lookup (ix.exc 2) = some "most" := rfl
theorem k3 : cl.lookup (ix.exc 3) = some "make" := rfl
theorem k4 : cl.lookup (ix.exc 4) = some "key" := rfl
theorem k5 : cl.lookup (ix.exc 5) = some "lock" := rfl
theorem k6 : cl.lookup (ix.exc 6) = some "locks" := rfl
theorem h15 : pr.defs (ix.fn 15) = some (d_opens ix) := rfl
theorem h16 : pr.defs (ix.fn 16) = some (d_doors_of ix) := rfl
theorem h18 : pr.defs (ix.fn 18) = some (d_least_lock ix) := rfl
theorem h19 : pr.defs (ix.fn 19) = some (d_is_shut ix) := rfl
theorem h20 : pr.defs (ix.fn 20) = some (d_common_keys ix) := rfl
theorem nones_in {p d m : Nat} (h : MkOk p d m) {t : D} (ht : t ∈ nones p d) : okThing t = true ∧ keyB p d t = false ∧ reprOk "key" t = true := by
  have z := List.all_eq_true.mp (List.all_eq_true.mp nones_ok (p, d) h.1) t ht
  simp only [Bool.and_eq_true, Bool.not_eq_true'] at z
  exact ⟨z.1.1, z.1.2, reprOk_tn (List.all_eq_true.mp words_w _ (by simp)) z.2⟩
theorem bads_in {p d m : Nat} (h : MkOk p d m) {l : List (List Int)} (hl : gLock p d m l) {t : D} (ht : t ∈ bads p d l) : okThing t = true ∧ lockB p d m t = false ∧ reprOk "lock" t = true := by
  have hle := h.le
  have := h.2
  obtain ⟨z1, z2, z3⟩ := bads_ok h.1 (by omega) hl ht
  exact ⟨z1, z2, reprOk_tn (List.all_eq_true.mp words_w _ (by simp)) z3⟩
theorem wrongs_in {t : D} (ht : t ∈ wrongs) : noMk t ∧ reprOk "make" t = true := by
  have z := List.all_eq_true.mp wrongs_ok t ht
  simp only [Bool.and_eq_true] at z
  refine ⟨⟨z.1.1, fun c fs e => ?_⟩, z.2⟩
  subst e
  have := z.1.2
  cases this
theorem words_ok : (([.int 0, .int 4, .int 5, .non, .bl true] : List D).all fun v => reprOk "pins" v && reprOk "depths" v && reprOk "most" v) = true := by decide +kernel
theorem mkp {w n : Nat} {st : Store} (h : 3 ≤ n) {x : D} (hx : x.gd = true) (hb : x.wi 1 3 = false) : (callsN pr w n).init (ix.cls 0) [x, .int 2, .int 1] st = .exc (ix.exc 0) x st := by
  rw [s_make b0 h hx rfl rfl, hb]
  rfl
theorem mkd {w n : Nat} {st : Store} (h : 3 ≤ n) {x : D} (hx : x.gd = true) (hb : x.wi 1 4 = false) : (callsN pr w n).init (ix.cls 0) [.int 2, x, .int 1] st = .exc (ix.exc 1) x st := by
  rw [s_make b0 h rfl hx rfl, hb]
  rfl
theorem mkm {w n : Nat} {st : Store} (h : 3 ≤ n) {x : D} (hx : x.gd = true) (hb : x.wi 1 3 = false) : (callsN pr w n).init (ix.cls 0) [.int 2, .int 3, x] st = .exc (ix.exc 2) x st := by
  rw [s_make b0 h rfl rfl hx]
  rw [show D.wi 1 3 (.int 2) = true from by decide, show D.wi 1 4 (.int 3) = true from by decide]
  simp [hb]
theorem c_eqW {i : Int} {w : Str} (h : strOk w = true) : opC .eq (.tup [.str w, .int i]) (.tup [.str w, .int i]) = some true := by
  show eqD _ _ = _
  simp [eqD, D.plain, D.plains, D.depth, D.depths, D.eqv, D.eqvs, h]
theorem c_neW {i : Int} {w : Str} (h : strOk w = true) : opC .ne (.tup [.str w, .int i]) (.tup [.str w, .int i]) = some false := by
  show (eqD _ _).map (!·) = _
  rw [show eqD (.tup [.str w, .int i]) (.tup [.str w, .int i]) = some true from c_eqW h]
  rfl
section
variable {w n : Nat} {ns : List Int} {p d m : Nat} {l : List (List Int)}
/-- the names' slots behind the draws -/
abbrev rr (p d m : Nat) (l : List (List Int)) (wr no ba : D) (a b c : Slot) : Env := [.val (.ptr 0), .val (mkT p d m), .val (mkD ix p d m), .val (tTt l), .val wr, .val (repD (.int 0) p), .val no, .val ba, a, b, c]
theorem rep_tI {p : Nat} {i : Int} : repD (.int i) p = tI (List.replicate p i) := by
  simp only [repD, tI, List.map_replicate]
  congr 1
  induction p with
  | zero => rfl
  | succ p ih => simp [List.replicate_succ, ih]
theorem key0 (h : MkOk p d m) : gKey p d (List.replicate p 0) := by
  have := h.le
  refine ⟨?_, by simp; omega⟩
  rw [keyB_int]
  simp
  omega
theorem s_refusals {s : Int × Int × Int} (hs : RowOk s) (hm : MkOk p d m) (hl : gLock p d m l) (h : 9 ≤ n) : ∃ s', (callsN pr w n).call (ix.fn 35) [.ptr 0, mkT p d m, mkD ix p d m, tTt l] (rowSt ns s) = .ok (.bl true) (rowSt ns s') := by
  obtain ⟨k, rfl⟩ := lev h
  rw [call_at (show pr.defs (ix.fn 35) = some (d__law_refusals ix) from rfl) rfl]
  have hle := hm.le
  have hm2 := hm.2
  obtain ⟨wr, s1, e1, h1, hwr⟩ := s_bad_make (w := w) (ns := ns) bl (show pr.defs (ix.fn 31) = some (d__law_bad_make ix) from rfl) (show 3 ≤ k + 8 by omega) hs
  obtain ⟨no, s2, e2, h2, hno⟩ := s_pick (w := w) (ns := ns) bl (show 2 ≤ k + 8 by omega) h1 (l := nones p d) (by simp [nones]) (by simp [nones])
  obtain ⟨ba, s3, e3, h3, hba⟩ := s_pick (w := w) (ns := ns) bl (show 2 ≤ k + 8 by omega) h2 (l := bads p d l) (by simp [bads]) (by simp [bads])
  obtain ⟨n1, n2, n3⟩ := nones_in hm hno
  obtain ⟨q1, q2, q3⟩ := bads_in hm hl hba
  obtain ⟨w1, w2⟩ := wrongs_in hwr
  obtain ⟨nd, nl, _⟩ := okThing_ok n1
  obtain ⟨qd, ql, qe⟩ := okThing_ok q1
  have hk := key0 hm
  have mulT : ∀ x : D, opB .mul (.tup [x]) (.int (p : Int)) = some (repD x p) := fun x => by
    rw [o_mulT (by simp) (by omega) (by omega) (by simp)]
    simp [repD]
  have addK : opB .add (repD (.int 0) p) (.tup [.int 0]) = some (.tup ((List.replicate p [D.int 0]).flatten ++ [.int 0])) := o_addT (by simp; omega)
  have addL : opB .add (tTt l) (.tup [.tup [.int 0]]) = some (.tup (l.map tI ++ [tI [0]])) := o_addT (by have := hl.2.1; have := (gLock_nodup hl).1; simp; omega)
  have at1 : atD [D.int (p : Int), .int (d : Int), .int (m : Int)] 1 = some (.int d) := rfl
  have at0 : atD [D.int (p : Int), .int (d : Int), .int (m : Int)] 0 = some (.int p) := rfl
  refine ⟨s3, ?_⟩
  have body : exs pr (callsN pr w (k + 8)) w (d__law_refusals ix).body ((d__law_refusals ix).start ([.ptr 0, mkT p d m, mkD ix p d m, tTt l].map .val)) (rowSt ns s) = .rt (.bl true) (rowSt ns s3) := by
    unfold d__law_refusals
    refine seq_nx (ρ1 := [.val (.ptr 0), .val (mkT p d m), .val (mkD ix p d m), .val (tTt l), .val wr, .val (repD (.int 0) p), .no, .no, .no, .no, .no]) (st1 := rowSt ns s1) (by simp only [exs, ex, ev, evs, rb_ok, rb_exc, ro_ok, ro_exc, ob_nx, ob_rt, ob_exc, oo_some, rs_some, an_nx, an_rt, an_exc, bi_some, bi_some', FD.start, List.map_cons, List.map_nil, List.length_cons, List.length_nil, List.cons_append, List.nil_append, List.replicate, List.getElem?_cons_zero, List.getElem?_cons_succ, List.set_cons_zero, List.set_cons_succ, asg, asgs, asgN, asgNs, T.names, T.namess, wipeE, frzE, Option.map_some, if_true, if_false, reduceCtorEq, Nat.zero_add, Nat.reduceAdd, Nat.reduceSub, Nat.reduceLT, Nat.reduceLeDiff, E.isNon, D.isI, Bool.false_or, Bool.true_or, Bool.not_true, Bool.not_false, Bool.true_and, Bool.false_and, Bool.and_true, Bool.or_false, Bool.or_true, Bool.false_eq_true, o_add, o_sub, c_eqI, c_neI, c_lt, c_le, c_gt, c_ge, c_is, c_isnot, b_lenL, b_lenT, b_int, b_tupL, b_tupT, b_lstL, b_lstT, i_sL, i_sT, i_eL, i_eT, slT, slLs, sl1, isiD, tyD, e1, at0, mulT]) ?_
    refine seq_nx (ρ1 := [.val (.ptr 0), .val (mkT p d m), .val (mkD ix p d m), .val (tTt l), .val wr, .val (repD (.int 0) p), .val no, .no, .no, .no, .no]) (st1 := rowSt ns s2) (by
      have e2' := e2
      unfold nones at e2'
      simp only [exs, ex, ev, evs, rb_ok, rb_exc, ro_ok, ro_exc, ob_nx, ob_rt, ob_exc, oo_some, rs_some, an_nx, an_rt, an_exc, bi_some, bi_some', FD.start, List.map_cons, List.map_nil, List.length_cons, List.length_nil, List.cons_append, List.nil_append, List.replicate, List.getElem?_cons_zero, List.getElem?_cons_succ, List.set_cons_zero, List.set_cons_succ, asg, asgs, asgN, asgNs, T.names, T.namess, wipeE, frzE, Option.map_some, if_true, if_false, reduceCtorEq, Nat.zero_add, Nat.reduceAdd, Nat.reduceSub, Nat.reduceLT, Nat.reduceLeDiff, E.isNon, D.isI, Bool.false_or, Bool.true_or, Bool.not_true, Bool.not_false, Bool.true_and, Bool.false_and, Bool.and_true, Bool.or_false, Bool.or_true, Bool.false_eq_true, o_add, o_sub, c_eqI, c_neI, c_lt, c_le, c_gt, c_ge, c_is, c_isnot, b_lenL, b_lenT, b_int, b_tupL, b_tupT, b_lstL, b_lstT, i_sL, i_sT, i_eL, i_eT, slT, slLs, sl1, isiD, tyD, at0, at1, mulT, addK, e2']) ?_
    refine seq_nx (ρ1 := rr p d m l wr no ba .no .no .no) (st1 := rowSt ns s3) (by
      have e3' := e3
      unfold bads at e3'
      simp only [exs, ex, ev, evs, rb_ok, rb_exc, ro_ok, ro_exc, ob_nx, ob_rt, ob_exc, oo_some, rs_some, an_nx, an_rt, an_exc, bi_some, bi_some', FD.start, List.map_cons, List.map_nil, List.length_cons, List.length_nil, List.cons_append, List.nil_append, List.replicate, List.getElem?_cons_zero, List.getElem?_cons_succ, List.set_cons_zero, List.set_cons_succ, asg, asgs, asgN, asgNs, T.names, T.namess, wipeE, frzE, Option.map_some, if_true, if_false, reduceCtorEq, Nat.zero_add, Nat.reduceAdd, Nat.reduceSub, Nat.reduceLT, Nat.reduceLeDiff, E.isNon, D.isI, Bool.false_or, Bool.true_or, Bool.not_true, Bool.not_false, Bool.true_and, Bool.false_and, Bool.and_true, Bool.or_false, Bool.or_true, Bool.false_eq_true, o_add, o_sub, c_eqI, c_neI, c_lt, c_le, c_gt, c_ge, c_is, c_isnot, b_lenL, b_lenT, b_int, b_tupL, b_tupT, b_lstL, b_lstT, i_sL, i_sT, i_eL, i_eT, slT, slLs, sl1, isiD, tyD, at0, at1, mulT, addL, e3']) ?_
    have kp : 9 ≤ k + 9 := h
    -- the make's parts
    refine seq_for (fun ρ => ∃ a, ρ = rr p d m l wr no ba a .no .no) (ds := [.lst [.int 0, .int 4, .non, .bl true]]) (st1 := rowSt ns s3) (by simp only [exs, ex, ev, evs, rb_ok, rb_exc, ro_ok, ro_exc, ob_nx, ob_rt, ob_exc, oo_some, rs_some, an_nx, an_rt, an_exc, bi_some, bi_some', FD.start, List.map_cons, List.map_nil, List.length_cons, List.length_nil, List.cons_append, List.nil_append, List.replicate, List.getElem?_cons_zero, List.getElem?_cons_succ, List.set_cons_zero, List.set_cons_succ, asg, asgs, asgN, asgNs, T.names, T.namess, wipeE, frzE, Option.map_some, if_true, if_false, reduceCtorEq, Nat.zero_add, Nat.reduceAdd, Nat.reduceSub, Nat.reduceLT, Nat.reduceLeDiff, E.isNon, D.isI, Bool.false_or, Bool.true_or, Bool.not_true, Bool.not_false, Bool.true_and, Bool.false_and, Bool.and_true, Bool.or_false, Bool.or_true, Bool.false_eq_true, o_add, o_sub, c_eqI, c_neI, c_lt, c_le, c_gt, c_ge, c_is, c_isnot, b_lenL, b_lenT, b_int, b_tupL, b_tupT, b_lstL, b_lstT, i_sL, i_sT, i_eL, i_eT, slT, slLs, sl1, isiD, tyD]) rfl ⟨_, rfl⟩ (by
      rintro x hx ρ ⟨a, rfl⟩
      refine ⟨rr p d m l wr no ba (.val x) .no .no, ?_, _, rfl⟩
      rw [show asgN (.nm 8) x (rr p d m l wr no ba a .no .no) = some (rr p d m l wr no ba (.val x) .no .no) from rfl, oo_some]
      have hv : x.gd = true ∧ x.wi 1 3 = false ∧ reprOk "pins" x = true := by
        have z := words_ok
        simp only [List.all_cons, List.all_nil, Bool.and_eq_true] at z
        simp only [List.mem_cons, List.not_mem_nil, or_false] at hx
        rcases hx with rfl | rfl | rfl | rfl
        · exact ⟨rfl, by decide, z.1.1.1⟩
        · exact ⟨rfl, by decide, z.2.1.1.1⟩
        · exact ⟨rfl, by decide, z.2.2.2.1.1.1⟩
        · exact ⟨rfl, by decide, z.2.2.2.2.1.1.1⟩
      refine seq_if (st1 := rowSt ns s3) (ref_ne (ev_ref hH (by simp only [exs, ex, ev, evs, rb_ok, rb_exc, ro_ok, ro_exc, ob_nx, ob_rt, ob_exc, oo_some, rs_some, an_nx, an_rt, an_exc, bi_some, bi_some', FD.start, List.map_cons, List.map_nil, List.length_cons, List.length_nil, List.cons_append, List.nil_append, List.replicate, List.getElem?_cons_zero, List.getElem?_cons_succ, List.set_cons_zero, List.set_cons_succ, asg, asgs, asgN, asgNs, T.names, T.namess, wipeE, frzE, Option.map_some, if_true, if_false, reduceCtorEq, Nat.zero_add, Nat.reduceAdd, Nat.reduceSub, Nat.reduceLT, Nat.reduceLeDiff, E.isNon, D.isI, Bool.false_or, Bool.true_or, Bool.not_true, Bool.not_false, Bool.true_and, Bool.false_and, Bool.and_true, Bool.or_false, Bool.or_true, Bool.false_eq_true, o_add, o_sub, c_eqI, c_neI, c_lt, c_le, c_gt, c_ge, c_is, c_isnot, b_lenL, b_lenT, b_int, b_tupL, b_tupT, b_lstL, b_lstT, i_sL, i_sT, i_eL, i_eT, slT, slLs, sl1, isiD, tyD, mkp (show 3 ≤ k + 8 by omega) hv.1 hv.2.1]) k0) (by simp only [exs, ex, ev, evs, rb_ok, rb_exc, ro_ok, ro_exc, ob_nx, ob_rt, ob_exc, oo_some, rs_some, an_nx, an_rt, an_exc, bi_some, bi_some', FD.start, List.map_cons, List.map_nil, List.length_cons, List.length_nil, List.cons_append, List.nil_append, List.replicate, List.getElem?_cons_zero, List.getElem?_cons_succ, List.set_cons_zero, List.set_cons_succ, asg, asgs, asgN, asgNs, T.names, T.namess, wipeE, frzE, Option.map_some, if_true, if_false, reduceCtorEq, Nat.zero_add, Nat.reduceAdd, Nat.reduceSub, Nat.reduceLT, Nat.reduceLeDiff, E.isNon, D.isI, Bool.false_or, Bool.true_or, Bool.not_true, Bool.not_false, Bool.true_and, Bool.false_and, Bool.and_true, Bool.or_false, Bool.or_true, Bool.false_eq_true, o_add, o_sub, c_eqI, c_neI, c_lt, c_le, c_gt, c_ge, c_is, c_isnot, b_lenL, b_lenT, b_int, b_tupL, b_tupT, b_lstL, b_lstT, i_sL, i_sT, i_eL, i_eT, slT, slLs, sl1, isiD, tyD]) hv.2.2) rfl rfl) (fun ρ' ⟨a, hρ⟩ => ?_)
    subst hρ
    refine seq_for (fun ρ => ∃ a, ρ = rr p d m l wr no ba a .no .no) (ds := [.lst [.int 0, .int 5, .non, .bl true]]) (st1 := rowSt ns s3) (by simp only [exs, ex, ev, evs, rb_ok, rb_exc, ro_ok, ro_exc, ob_nx, ob_rt, ob_exc, oo_some, rs_some, an_nx, an_rt, an_exc, bi_some, bi_some', FD.start, List.map_cons, List.map_nil, List.length_cons, List.length_nil, List.cons_append, List.nil_append, List.replicate, List.getElem?_cons_zero, List.getElem?_cons_succ, List.set_cons_zero, List.set_cons_succ, asg, asgs, asgN, asgNs, T.names, T.namess, wipeE, frzE, Option.map_some, if_true, if_false, reduceCtorEq, Nat.zero_add, Nat.reduceAdd, Nat.reduceSub, Nat.reduceLT, Nat.reduceLeDiff, E.isNon, D.isI, Bool.false_or, Bool.true_or, Bool.not_true, Bool.not_false, Bool.true_and, Bool.false_and, Bool.and_true, Bool.or_false, Bool.or_true, Bool.false_eq_true, o_add, o_sub, c_eqI, c_neI, c_lt, c_le, c_gt, c_ge, c_is, c_isnot, b_lenL, b_lenT, b_int, b_tupL, b_tupT, b_lstL, b_lstT, i_sL, i_sT, i_eL, i_eT, slT, slLs, sl1, isiD, tyD]) rfl ⟨_, rfl⟩ (by
      rintro x hx ρ ⟨a, rfl⟩
      refine ⟨rr p d m l wr no ba (.val x) .no .no, ?_, _, rfl⟩
      rw [show asgN (.nm 8) x (rr p d m l wr no ba a .no .no) = some (rr p d m l wr no ba (.val x) .no .no) from rfl, oo_some]
      have hv : x.gd = true ∧ x.wi 1 4 = false ∧ x.wi 1 3 = false ∧ reprOk "depths" x = true ∧ reprOk "most" x = true := by
        have z := words_ok
        simp only [List.all_cons, List.all_nil, Bool.and_eq_true] at z
        simp only [List.mem_cons, List.not_mem_nil, or_false] at hx
        rcases hx with rfl | rfl | rfl | rfl
        · exact ⟨rfl, by decide, by decide, z.1.1.2, z.1.2⟩
        · exact ⟨rfl, by decide, by decide, z.2.2.1.1.2, z.2.2.1.2⟩
        · exact ⟨rfl, by decide, by decide, z.2.2.2.1.1.2, z.2.2.2.1.2⟩
        · exact ⟨rfl, by decide, by decide, z.2.2.2.2.1.1.2, z.2.2.2.2.1.2⟩
      refine seq_if (st1 := rowSt ns s3) (ref_ne (ev_ref hH (by simp only [exs, ex, ev, evs, rb_ok, rb_exc, ro_ok, ro_exc, ob_nx, ob_rt, ob_exc, oo_some, rs_some, an_nx, an_rt, an_exc, bi_some, bi_some', FD.start, List.map_cons, List.map_nil, List.length_cons, List.length_nil, List.cons_append, List.nil_append, List.replicate, List.getElem?_cons_zero, List.getElem?_cons_succ, List.set_cons_zero, List.set_cons_succ, asg, asgs, asgN, asgNs, T.names, T.namess, wipeE, frzE, Option.map_some, if_true, if_false, reduceCtorEq, Nat.zero_add, Nat.reduceAdd, Nat.reduceSub, Nat.reduceLT, Nat.reduceLeDiff, E.isNon, D.isI, Bool.false_or, Bool.true_or, Bool.not_true, Bool.not_false, Bool.true_and, Bool.false_and, Bool.and_true, Bool.or_false, Bool.or_true, Bool.false_eq_true, o_add, o_sub, c_eqI, c_neI, c_lt, c_le, c_gt, c_ge, c_is, c_isnot, b_lenL, b_lenT, b_int, b_tupL, b_tupT, b_lstL, b_lstT, i_sL, i_sT, i_eL, i_eT, slT, slLs, sl1, isiD, tyD, mkd (show 3 ≤ k + 8 by omega) hv.1 hv.2.1]) k1) (by simp only [exs, ex, ev, evs, rb_ok, rb_exc, ro_ok, ro_exc, ob_nx, ob_rt, ob_exc, oo_some, rs_some, an_nx, an_rt, an_exc, bi_some, bi_some', FD.start, List.map_cons, List.map_nil, List.length_cons, List.length_nil, List.cons_append, List.nil_append, List.replicate, List.getElem?_cons_zero, List.getElem?_cons_succ, List.set_cons_zero, List.set_cons_succ, asg, asgs, asgN, asgNs, T.names, T.namess, wipeE, frzE, Option.map_some, if_true, if_false, reduceCtorEq, Nat.zero_add, Nat.reduceAdd, Nat.reduceSub, Nat.reduceLT, Nat.reduceLeDiff, E.isNon, D.isI, Bool.false_or, Bool.true_or, Bool.not_true, Bool.not_false, Bool.true_and, Bool.false_and, Bool.and_true, Bool.or_false, Bool.or_true, Bool.false_eq_true, o_add, o_sub, c_eqI, c_neI, c_lt, c_le, c_gt, c_ge, c_is, c_isnot, b_lenL, b_lenT, b_int, b_tupL, b_tupT, b_lstL, b_lstT, i_sL, i_sT, i_eL, i_eT, slT, slLs, sl1, isiD, tyD]) hv.2.2.2.1) rfl ?_
      refine seq_if (st1 := rowSt ns s3) (ref_ne (ev_ref hH (by simp only [exs, ex, ev, evs, rb_ok, rb_exc, ro_ok, ro_exc, ob_nx, ob_rt, ob_exc, oo_some, rs_some, an_nx, an_rt, an_exc, bi_some, bi_some', FD.start, List.map_cons, List.map_nil, List.length_cons, List.length_nil, List.cons_append, List.nil_append, List.replicate, List.getElem?_cons_zero, List.getElem?_cons_succ, List.set_cons_zero, List.set_cons_succ, asg, asgs, asgN, asgNs, T.names, T.namess, wipeE, frzE, Option.map_some, if_true, if_false, reduceCtorEq, Nat.zero_add, Nat.reduceAdd, Nat.reduceSub, Nat.reduceLT, Nat.reduceLeDiff, E.isNon, D.isI, Bool.false_or, Bool.true_or, Bool.not_true, Bool.not_false, Bool.true_and, Bool.false_and, Bool.and_true, Bool.or_false, Bool.or_true, Bool.false_eq_true, o_add, o_sub, c_eqI, c_neI, c_lt, c_le, c_gt, c_ge, c_is, c_isnot, b_lenL, b_lenT, b_int, b_tupL, b_tupT, b_lstL, b_lstT, i_sL, i_sT, i_eL, i_eT, slT, slLs, sl1, isiD, tyD, mkm (show 3 ≤ k + 8 by omega) hv.1 hv.2.2.1]) k2) (by simp only [exs, ex, ev, evs, rb_ok, rb_exc, ro_ok, ro_exc, ob_nx, ob_rt, ob_exc, oo_some, rs_some, an_nx, an_rt, an_exc, bi_some, bi_some', FD.start, List.map_cons, List.map_nil, List.length_cons, List.length_nil, List.cons_append, List.nil_append, List.replicate, List.getElem?_cons_zero, List.getElem?_cons_succ, List.set_cons_zero, List.set_cons_succ, asg, asgs, asgN, asgNs, T.names, T.namess, wipeE, frzE, Option.map_some, if_true, if_false, reduceCtorEq, Nat.zero_add, Nat.reduceAdd, Nat.reduceSub, Nat.reduceLT, Nat.reduceLeDiff, E.isNon, D.isI, Bool.false_or, Bool.true_or, Bool.not_true, Bool.not_false, Bool.true_and, Bool.false_and, Bool.and_true, Bool.or_false, Bool.or_true, Bool.false_eq_true, o_add, o_sub, c_eqI, c_neI, c_lt, c_le, c_gt, c_ge, c_is, c_isnot, b_lenL, b_lenT, b_int, b_tupL, b_tupT, b_lstL, b_lstT, i_sL, i_sT, i_eL, i_eT, slT, slLs, sl1, isiD, tyD]) hv.2.2.2.2) rfl rfl) (fun ρ' ⟨b, hρ⟩ => ?_)
    subst hρ
    refine seq_if (st1 := rowSt ns s3) (ref_ne (ev_ref hH (by simp only [exs, ex, ev, evs, rb_ok, rb_exc, ro_ok, ro_exc, ob_nx, ob_rt, ob_exc, oo_some, rs_some, an_nx, an_rt, an_exc, bi_some, bi_some', FD.start, List.map_cons, List.map_nil, List.length_cons, List.length_nil, List.cons_append, List.nil_append, List.replicate, List.getElem?_cons_zero, List.getElem?_cons_succ, List.set_cons_zero, List.set_cons_succ, asg, asgs, asgN, asgNs, T.names, T.namess, wipeE, frzE, Option.map_some, if_true, if_false, reduceCtorEq, Nat.zero_add, Nat.reduceAdd, Nat.reduceSub, Nat.reduceLT, Nat.reduceLeDiff, E.isNon, D.isI, Bool.false_or, Bool.true_or, Bool.not_true, Bool.not_false, Bool.true_and, Bool.false_and, Bool.and_true, Bool.or_false, Bool.or_true, Bool.false_eq_true, o_add, o_sub, c_eqI, c_neI, c_lt, c_le, c_gt, c_ge, c_is, c_isnot, b_lenL, b_lenT, b_int, b_tupL, b_tupT, b_lstL, b_lstT, i_sL, i_sT, i_eL, i_eT, slT, slLs, sl1, isiD, tyD, w_all_keys b0 b2 (show 2 ≤ k + 8 by omega) w1]) k3) (by simp only [exs, ex, ev, evs, rb_ok, rb_exc, ro_ok, ro_exc, ob_nx, ob_rt, ob_exc, oo_some, rs_some, an_nx, an_rt, an_exc, bi_some, bi_some', FD.start, List.map_cons, List.map_nil, List.length_cons, List.length_nil, List.cons_append, List.nil_append, List.replicate, List.getElem?_cons_zero, List.getElem?_cons_succ, List.set_cons_zero, List.set_cons_succ, asg, asgs, asgN, asgNs, T.names, T.namess, wipeE, frzE, Option.map_some, if_true, if_false, reduceCtorEq, Nat.zero_add, Nat.reduceAdd, Nat.reduceSub, Nat.reduceLT, Nat.reduceLeDiff, E.isNon, D.isI, Bool.false_or, Bool.true_or, Bool.not_true, Bool.not_false, Bool.true_and, Bool.false_and, Bool.and_true, Bool.or_false, Bool.or_true, Bool.false_eq_true, o_add, o_sub, c_eqI, c_neI, c_lt, c_le, c_gt, c_ge, c_is, c_isnot, b_lenL, b_lenT, b_int, b_tupL, b_tupT, b_lstL, b_lstT, i_sL, i_sT, i_eL, i_eT, slT, slLs, sl1, isiD, tyD]) w2) rfl ?_
    refine seq_for (fun ρ => ∃ a c, ρ = rr p d m l wr no ba b a c) (ds := [.lst [.tup [.fn (ix.fn 8), repD (.int 0) p], .tup [.fn (ix.fn 10), tTt l], .tup [.fn (ix.fn 18), .lst []], .tup [.fn (ix.fn 17), tTt l]]]) (st1 := rowSt ns s3) (by simp only [exs, ex, ev, evs, rb_ok, rb_exc, ro_ok, ro_exc, ob_nx, ob_rt, ob_exc, oo_some, rs_some, an_nx, an_rt, an_exc, bi_some, bi_some', FD.start, List.map_cons, List.map_nil, List.length_cons, List.length_nil, List.cons_append, List.nil_append, List.replicate, List.getElem?_cons_zero, List.getElem?_cons_succ, List.set_cons_zero, List.set_cons_succ, asg, asgs, asgN, asgNs, T.names, T.namess, wipeE, frzE, Option.map_some, if_true, if_false, reduceCtorEq, Nat.zero_add, Nat.reduceAdd, Nat.reduceSub, Nat.reduceLT, Nat.reduceLeDiff, E.isNon, D.isI, Bool.false_or, Bool.true_or, Bool.not_true, Bool.not_false, Bool.true_and, Bool.false_and, Bool.and_true, Bool.or_false, Bool.or_true, Bool.false_eq_true, o_add, o_sub, c_eqI, c_neI, c_lt, c_le, c_gt, c_ge, c_is, c_isnot, b_lenL, b_lenT, b_int, b_tupL, b_tupT, b_lstL, b_lstT, i_sL, i_sT, i_eL, i_eT, slT, slLs, sl1, isiD, tyD]) rfl ⟨_, _, rfl⟩ (by
      rintro x hx ρ ⟨a, c, rfl⟩
      simp only [List.mem_cons, List.not_mem_nil, or_false] at hx
      rcases hx with rfl | rfl | rfl | rfl
      · refine ⟨rr p d m l wr no ba b (.val (.fn (ix.fn 8))) (.val (repD (.int 0) p)), ?_, _, _, rfl⟩
        rw [show asgN (.tup [.nm 9, .nm 10]) (.tup [.fn (ix.fn 8), repD (.int 0) p]) (rr p d m l wr no ba b a c) = some (rr p d m l wr no ba b (.val (.fn (ix.fn 8))) (.val (repD (.int 0) p))) from rfl, oo_some]
        refine seq_if (st1 := rowSt ns s3) (ref_ne (ev_ref hH (by simp only [exs, ex, ev, evs, rb_ok, rb_exc, ro_ok, ro_exc, ob_nx, ob_rt, ob_exc, oo_some, rs_some, an_nx, an_rt, an_exc, bi_some, bi_some', FD.start, List.map_cons, List.map_nil, List.length_cons, List.length_nil, List.cons_append, List.nil_append, List.replicate, List.getElem?_cons_zero, List.getElem?_cons_succ, List.set_cons_zero, List.set_cons_succ, asg, asgs, asgN, asgNs, T.names, T.namess, wipeE, frzE, Option.map_some, if_true, if_false, reduceCtorEq, Nat.zero_add, Nat.reduceAdd, Nat.reduceSub, Nat.reduceLT, Nat.reduceLeDiff, E.isNon, D.isI, Bool.false_or, Bool.true_or, Bool.not_true, Bool.not_false, Bool.true_and, Bool.false_and, Bool.and_true, Bool.or_false, Bool.or_true, Bool.false_eq_true, o_add, o_sub, c_eqI, c_neI, c_lt, c_le, c_gt, c_ge, c_is, c_isnot, b_lenL, b_lenT, b_int, b_tupL, b_tupT, b_lstL, b_lstT, i_sL, i_sT, i_eL, i_eT, slT, slLs, sl1, isiD, tyD, b0.h8, Option.isSome_some, w_is_key b0 (show 2 ≤ k + 8 by omega) w1]) k3) (by simp only [exs, ex, ev, evs, rb_ok, rb_exc, ro_ok, ro_exc, ob_nx, ob_rt, ob_exc, oo_some, rs_some, an_nx, an_rt, an_exc, bi_some, bi_some', FD.start, List.map_cons, List.map_nil, List.length_cons, List.length_nil, List.cons_append, List.nil_append, List.replicate, List.getElem?_cons_zero, List.getElem?_cons_succ, List.set_cons_zero, List.set_cons_succ, asg, asgs, asgN, asgNs, T.names, T.namess, wipeE, frzE, Option.map_some, if_true, if_false, reduceCtorEq, Nat.zero_add, Nat.reduceAdd, Nat.reduceSub, Nat.reduceLT, Nat.reduceLeDiff, E.isNon, D.isI, Bool.false_or, Bool.true_or, Bool.not_true, Bool.not_false, Bool.true_and, Bool.false_and, Bool.and_true, Bool.or_false, Bool.or_true, Bool.false_eq_true, o_add, o_sub, c_eqI, c_neI, c_lt, c_le, c_gt, c_ge, c_is, c_isnot, b_lenL, b_lenT, b_int, b_tupL, b_tupT, b_lstL, b_lstT, i_sL, i_sT, i_eL, i_eT, slT, slLs, sl1, isiD, tyD]) w2) rfl rfl
      · refine ⟨rr p d m l wr no ba b (.val (.fn (ix.fn 10))) (.val (tTt l)), ?_, _, _, rfl⟩
        rw [show asgN (.tup [.nm 9, .nm 10]) (.tup [.fn (ix.fn 10), tTt l]) (rr p d m l wr no ba b a c) = some (rr p d m l wr no ba b (.val (.fn (ix.fn 10))) (.val (tTt l))) from rfl, oo_some]
        refine seq_if (st1 := rowSt ns s3) (ref_ne (ev_ref hH (by simp only [exs, ex, ev, evs, rb_ok, rb_exc, ro_ok, ro_exc, ob_nx, ob_rt, ob_exc, oo_some, rs_some, an_nx, an_rt, an_exc, bi_some, bi_some', FD.start, List.map_cons, List.map_nil, List.length_cons, List.length_nil, List.cons_append, List.nil_append, List.replicate, List.getElem?_cons_zero, List.getElem?_cons_succ, List.set_cons_zero, List.set_cons_succ, asg, asgs, asgN, asgNs, T.names, T.namess, wipeE, frzE, Option.map_some, if_true, if_false, reduceCtorEq, Nat.zero_add, Nat.reduceAdd, Nat.reduceSub, Nat.reduceLT, Nat.reduceLeDiff, E.isNon, D.isI, Bool.false_or, Bool.true_or, Bool.not_true, Bool.not_false, Bool.true_and, Bool.false_and, Bool.and_true, Bool.or_false, Bool.or_true, Bool.false_eq_true, o_add, o_sub, c_eqI, c_neI, c_lt, c_le, c_gt, c_ge, c_is, c_isnot, b_lenL, b_lenT, b_int, b_tupL, b_tupT, b_lstL, b_lstT, i_sL, i_sT, i_eL, i_eT, slT, slLs, sl1, isiD, tyD, b2.h10, Option.isSome_some, w_is_lock b0 b2 (show 2 ≤ k + 8 by omega) w1]) k3) (by simp only [exs, ex, ev, evs, rb_ok, rb_exc, ro_ok, ro_exc, ob_nx, ob_rt, ob_exc, oo_some, rs_some, an_nx, an_rt, an_exc, bi_some, bi_some', FD.start, List.map_cons, List.map_nil, List.length_cons, List.length_nil, List.cons_append, List.nil_append, List.replicate, List.getElem?_cons_zero, List.getElem?_cons_succ, List.set_cons_zero, List.set_cons_succ, asg, asgs, asgN, asgNs, T.names, T.namess, wipeE, frzE, Option.map_some, if_true, if_false, reduceCtorEq, Nat.zero_add, Nat.reduceAdd, Nat.reduceSub, Nat.reduceLT, Nat.reduceLeDiff, E.isNon, D.isI, Bool.false_or, Bool.true_or, Bool.not_true, Bool.not_false, Bool.true_and, Bool.false_and, Bool.and_true, Bool.or_false, Bool.or_true, Bool.false_eq_true, o_add, o_sub, c_eqI, c_neI, c_lt, c_le, c_gt, c_ge, c_is, c_isnot, b_lenL, b_lenT, b_int, b_tupL, b_tupT, b_lstL, b_lstT, i_sL, i_sT, i_eL, i_eT, slT, slLs, sl1, isiD, tyD]) w2) rfl rfl
      · refine ⟨rr p d m l wr no ba b (.val (.fn (ix.fn 18))) (.val (.lst [])), ?_, _, _, rfl⟩
        rw [show asgN (.tup [.nm 9, .nm 10]) (.tup [.fn (ix.fn 18), .lst []]) (rr p d m l wr no ba b a c) = some (rr p d m l wr no ba b (.val (.fn (ix.fn 18))) (.val (.lst []))) from rfl, oo_some]
        refine seq_if (st1 := rowSt ns s3) (ref_ne (ev_ref hH (by simp only [exs, ex, ev, evs, rb_ok, rb_exc, ro_ok, ro_exc, ob_nx, ob_rt, ob_exc, oo_some, rs_some, an_nx, an_rt, an_exc, bi_some, bi_some', FD.start, List.map_cons, List.map_nil, List.length_cons, List.length_nil, List.cons_append, List.nil_append, List.replicate, List.getElem?_cons_zero, List.getElem?_cons_succ, List.set_cons_zero, List.set_cons_succ, asg, asgs, asgN, asgNs, T.names, T.namess, wipeE, frzE, Option.map_some, if_true, if_false, reduceCtorEq, Nat.zero_add, Nat.reduceAdd, Nat.reduceSub, Nat.reduceLT, Nat.reduceLeDiff, E.isNon, D.isI, Bool.false_or, Bool.true_or, Bool.not_true, Bool.not_false, Bool.true_and, Bool.false_and, Bool.and_true, Bool.or_false, Bool.or_true, Bool.false_eq_true, o_add, o_sub, c_eqI, c_neI, c_lt, c_le, c_gt, c_ge, c_is, c_isnot, b_lenL, b_lenT, b_int, b_tupL, b_tupT, b_lstL, b_lstT, i_sL, i_sT, i_eL, i_eT, slT, slLs, sl1, isiD, tyD, h18, Option.isSome_some, w_least b0 h18 (show 2 ≤ k + 8 by omega) w1]) k3) (by simp only [exs, ex, ev, evs, rb_ok, rb_exc, ro_ok, ro_exc, ob_nx, ob_rt, ob_exc, oo_some, rs_some, an_nx, an_rt, an_exc, bi_some, bi_some', FD.start, List.map_cons, List.map_nil, List.length_cons, List.length_nil, List.cons_append, List.nil_append, List.replicate, List.getElem?_cons_zero, List.getElem?_cons_succ, List.set_cons_zero, List.set_cons_succ, asg, asgs, asgN, asgNs, T.names, T.namess, wipeE, frzE, Option.map_some, if_true, if_false, reduceCtorEq, Nat.zero_add, Nat.reduceAdd, Nat.reduceSub, Nat.reduceLT, Nat.reduceLeDiff, E.isNon, D.isI, Bool.false_or, Bool.true_or, Bool.not_true, Bool.not_false, Bool.true_and, Bool.false_and, Bool.and_true, Bool.or_false, Bool.or_true, Bool.false_eq_true, o_add, o_sub, c_eqI, c_neI, c_lt, c_le, c_gt, c_ge, c_is, c_isnot, b_lenL, b_lenT, b_int, b_tupL, b_tupT, b_lstL, b_lstT, i_sL, i_sT, i_eL, i_eT, slT, slLs, sl1, isiD, tyD]) w2) rfl rfl
      · refine ⟨rr p d m l wr no ba b (.val (.fn (ix.fn 17))) (.val (tTt l)), ?_, _, _, rfl⟩
        rw [show asgN (.tup [.nm 9, .nm 10]) (.tup [.fn (ix.fn 17), tTt l]) (rr p d m l wr no ba b a c) = some (rr p d m l wr no ba b (.val (.fn (ix.fn 17))) (.val (tTt l))) from rfl, oo_some]
        refine seq_if (st1 := rowSt ns s3) (ref_ne (ev_ref hH (by simp only [exs, ex, ev, evs, rb_ok, rb_exc, ro_ok, ro_exc, ob_nx, ob_rt, ob_exc, oo_some, rs_some, an_nx, an_rt, an_exc, bi_some, bi_some', FD.start, List.map_cons, List.map_nil, List.length_cons, List.length_nil, List.cons_append, List.nil_append, List.replicate, List.getElem?_cons_zero, List.getElem?_cons_succ, List.set_cons_zero, List.set_cons_succ, asg, asgs, asgN, asgNs, T.names, T.namess, wipeE, frzE, Option.map_some, if_true, if_false, reduceCtorEq, Nat.zero_add, Nat.reduceAdd, Nat.reduceSub, Nat.reduceLT, Nat.reduceLeDiff, E.isNon, D.isI, Bool.false_or, Bool.true_or, Bool.not_true, Bool.not_false, Bool.true_and, Bool.false_and, Bool.and_true, Bool.or_false, Bool.or_true, Bool.false_eq_true, o_add, o_sub, c_eqI, c_neI, c_lt, c_le, c_gt, c_ge, c_is, c_isnot, b_lenL, b_lenT, b_int, b_tupL, b_tupT, b_lstL, b_lstT, i_sL, i_sT, i_eL, i_eT, slT, slLs, sl1, isiD, tyD, b3.h17, Option.isSome_some, w_count b0 b2 b3 (show 4 ≤ k + 8 by omega) w1]) k3) (by simp only [exs, ex, ev, evs, rb_ok, rb_exc, ro_ok, ro_exc, ob_nx, ob_rt, ob_exc, oo_some, rs_some, an_nx, an_rt, an_exc, bi_some, bi_some', FD.start, List.map_cons, List.map_nil, List.length_cons, List.length_nil, List.cons_append, List.nil_append, List.replicate, List.getElem?_cons_zero, List.getElem?_cons_succ, List.set_cons_zero, List.set_cons_succ, asg, asgs, asgN, asgNs, T.names, T.namess, wipeE, frzE, Option.map_some, if_true, if_false, reduceCtorEq, Nat.zero_add, Nat.reduceAdd, Nat.reduceSub, Nat.reduceLT, Nat.reduceLeDiff, E.isNon, D.isI, Bool.false_or, Bool.true_or, Bool.not_true, Bool.not_false, Bool.true_and, Bool.false_and, Bool.and_true, Bool.or_false, Bool.or_true, Bool.false_eq_true, o_add, o_sub, c_eqI, c_neI, c_lt, c_le, c_gt, c_ge, c_is, c_isnot, b_lenL, b_lenT, b_int, b_tupL, b_tupT, b_lstL, b_lstT, i_sL, i_sT, i_eL, i_eT, slT, slLs, sl1, isiD, tyD]) w2) rfl rfl) (fun ρ' ⟨a, c, hρ⟩ => ?_)
    subst hρ
    refine seq_for (fun ρ => ∃ a c, ρ = rr p d m l wr no ba b a c) (ds := [.lst [.tup [.fn (ix.fn 15), tTt l], .tup [.fn (ix.fn 16), .lst []]]]) (st1 := rowSt ns s3) (by simp only [exs, ex, ev, evs, rb_ok, rb_exc, ro_ok, ro_exc, ob_nx, ob_rt, ob_exc, oo_some, rs_some, an_nx, an_rt, an_exc, bi_some, bi_some', FD.start, List.map_cons, List.map_nil, List.length_cons, List.length_nil, List.cons_append, List.nil_append, List.replicate, List.getElem?_cons_zero, List.getElem?_cons_succ, List.set_cons_zero, List.set_cons_succ, asg, asgs, asgN, asgNs, T.names, T.namess, wipeE, frzE, Option.map_some, if_true, if_false, reduceCtorEq, Nat.zero_add, Nat.reduceAdd, Nat.reduceSub, Nat.reduceLT, Nat.reduceLeDiff, E.isNon, D.isI, Bool.false_or, Bool.true_or, Bool.not_true, Bool.not_false, Bool.true_and, Bool.false_and, Bool.and_true, Bool.or_false, Bool.or_true, Bool.false_eq_true, o_add, o_sub, c_eqI, c_neI, c_lt, c_le, c_gt, c_ge, c_is, c_isnot, b_lenL, b_lenT, b_int, b_tupL, b_tupT, b_lstL, b_lstT, i_sL, i_sT, i_eL, i_eT, slT, slLs, sl1, isiD, tyD]) rfl ⟨_, _, rfl⟩ (by
      rintro x hx ρ ⟨a, c, rfl⟩
      simp only [List.mem_cons, List.not_mem_nil, or_false] at hx
      rcases hx with rfl | rfl
      · refine ⟨rr p d m l wr no ba b (.val (.fn (ix.fn 15))) (.val (tTt l)), ?_, _, _, rfl⟩
        rw [show asgN (.tup [.nm 9, .nm 10]) (.tup [.fn (ix.fn 15), tTt l]) (rr p d m l wr no ba b a c) = some (rr p d m l wr no ba b (.val (.fn (ix.fn 15))) (.val (tTt l))) from rfl, oo_some]
        refine seq_if (st1 := rowSt ns s3) (ref_ne (ev_ref hH (by simp only [exs, ex, ev, evs, rb_ok, rb_exc, ro_ok, ro_exc, ob_nx, ob_rt, ob_exc, oo_some, rs_some, an_nx, an_rt, an_exc, bi_some, bi_some', FD.start, List.map_cons, List.map_nil, List.length_cons, List.length_nil, List.cons_append, List.nil_append, List.replicate, List.getElem?_cons_zero, List.getElem?_cons_succ, List.set_cons_zero, List.set_cons_succ, asg, asgs, asgN, asgNs, T.names, T.namess, wipeE, frzE, Option.map_some, if_true, if_false, reduceCtorEq, Nat.zero_add, Nat.reduceAdd, Nat.reduceSub, Nat.reduceLT, Nat.reduceLeDiff, E.isNon, D.isI, Bool.false_or, Bool.true_or, Bool.not_true, Bool.not_false, Bool.true_and, Bool.false_and, Bool.and_true, Bool.or_false, Bool.or_true, Bool.false_eq_true, o_add, o_sub, c_eqI, c_neI, c_lt, c_le, c_gt, c_ge, c_is, c_isnot, b_lenL, b_lenT, b_int, b_tupL, b_tupT, b_lstL, b_lstT, i_sL, i_sT, i_eL, i_eT, slT, slLs, sl1, isiD, tyD, h15, Option.isSome_some, x_opens_key b0 b1 h15 (show 6 ≤ k + 8 by omega) nd nl n2]) k4) (by simp only [exs, ex, ev, evs, rb_ok, rb_exc, ro_ok, ro_exc, ob_nx, ob_rt, ob_exc, oo_some, rs_some, an_nx, an_rt, an_exc, bi_some, bi_some', FD.start, List.map_cons, List.map_nil, List.length_cons, List.length_nil, List.cons_append, List.nil_append, List.replicate, List.getElem?_cons_zero, List.getElem?_cons_succ, List.set_cons_zero, List.set_cons_succ, asg, asgs, asgN, asgNs, T.names, T.namess, wipeE, frzE, Option.map_some, if_true, if_false, reduceCtorEq, Nat.zero_add, Nat.reduceAdd, Nat.reduceSub, Nat.reduceLT, Nat.reduceLeDiff, E.isNon, D.isI, Bool.false_or, Bool.true_or, Bool.not_true, Bool.not_false, Bool.true_and, Bool.false_and, Bool.and_true, Bool.or_false, Bool.or_true, Bool.false_eq_true, o_add, o_sub, c_eqI, c_neI, c_lt, c_le, c_gt, c_ge, c_is, c_isnot, b_lenL, b_lenT, b_int, b_tupL, b_tupT, b_lstL, b_lstT, i_sL, i_sT, i_eL, i_eT, slT, slLs, sl1, isiD, tyD]) n3) rfl rfl
      · refine ⟨rr p d m l wr no ba b (.val (.fn (ix.fn 16))) (.val (.lst [])), ?_, _, _, rfl⟩
        rw [show asgN (.tup [.nm 9, .nm 10]) (.tup [.fn (ix.fn 16), .lst []]) (rr p d m l wr no ba b a c) = some (rr p d m l wr no ba b (.val (.fn (ix.fn 16))) (.val (.lst []))) from rfl, oo_some]
        refine seq_if (st1 := rowSt ns s3) (ref_ne (ev_ref hH (by simp only [exs, ex, ev, evs, rb_ok, rb_exc, ro_ok, ro_exc, ob_nx, ob_rt, ob_exc, oo_some, rs_some, an_nx, an_rt, an_exc, bi_some, bi_some', FD.start, List.map_cons, List.map_nil, List.length_cons, List.length_nil, List.cons_append, List.nil_append, List.replicate, List.getElem?_cons_zero, List.getElem?_cons_succ, List.set_cons_zero, List.set_cons_succ, asg, asgs, asgN, asgNs, T.names, T.namess, wipeE, frzE, Option.map_some, if_true, if_false, reduceCtorEq, Nat.zero_add, Nat.reduceAdd, Nat.reduceSub, Nat.reduceLT, Nat.reduceLeDiff, E.isNon, D.isI, Bool.false_or, Bool.true_or, Bool.not_true, Bool.not_false, Bool.true_and, Bool.false_and, Bool.and_true, Bool.or_false, Bool.or_true, Bool.false_eq_true, o_add, o_sub, c_eqI, c_neI, c_lt, c_le, c_gt, c_ge, c_is, c_isnot, b_lenL, b_lenT, b_int, b_tupL, b_tupT, b_lstL, b_lstT, i_sL, i_sT, i_eL, i_eT, slT, slLs, sl1, isiD, tyD, h16, Option.isSome_some, x_doors_key b0 b1 h16 (show 5 ≤ k + 8 by omega) nd nl n2]) k4) (by simp only [exs, ex, ev, evs, rb_ok, rb_exc, ro_ok, ro_exc, ob_nx, ob_rt, ob_exc, oo_some, rs_some, an_nx, an_rt, an_exc, bi_some, bi_some', FD.start, List.map_cons, List.map_nil, List.length_cons, List.length_nil, List.cons_append, List.nil_append, List.replicate, List.getElem?_cons_zero, List.getElem?_cons_succ, List.set_cons_zero, List.set_cons_succ, asg, asgs, asgN, asgNs, T.names, T.namess, wipeE, frzE, Option.map_some, if_true, if_false, reduceCtorEq, Nat.zero_add, Nat.reduceAdd, Nat.reduceSub, Nat.reduceLT, Nat.reduceLeDiff, E.isNon, D.isI, Bool.false_or, Bool.true_or, Bool.not_true, Bool.not_false, Bool.true_and, Bool.false_and, Bool.and_true, Bool.or_false, Bool.or_true, Bool.false_eq_true, o_add, o_sub, c_eqI, c_neI, c_lt, c_le, c_gt, c_ge, c_is, c_isnot, b_lenL, b_lenT, b_int, b_tupL, b_tupT, b_lstL, b_lstT, i_sL, i_sT, i_eL, i_eT, slT, slLs, sl1, isiD, tyD]) n3) rfl rfl) (fun ρ' ⟨a, c, hρ⟩ => ?_)
    subst hρ
    have xl := x_least_lock (w := w) (st := rowSt ns s3) b0 b1 h18 (show 5 ≤ k + 8 by omega) (m := (m : Int)) hk nd nl n2
    rw [← rep_tI] at xl
    refine seq_if (st1 := rowSt ns s3) (ref_ne (ev_ref hH (by simp only [exs, ex, ev, evs, rb_ok, rb_exc, ro_ok, ro_exc, ob_nx, ob_rt, ob_exc, oo_some, rs_some, an_nx, an_rt, an_exc, bi_some, bi_some', FD.start, List.map_cons, List.map_nil, List.length_cons, List.length_nil, List.cons_append, List.nil_append, List.replicate, List.getElem?_cons_zero, List.getElem?_cons_succ, List.set_cons_zero, List.set_cons_succ, asg, asgs, asgN, asgNs, T.names, T.namess, wipeE, frzE, Option.map_some, if_true, if_false, reduceCtorEq, Nat.zero_add, Nat.reduceAdd, Nat.reduceSub, Nat.reduceLT, Nat.reduceLeDiff, E.isNon, D.isI, Bool.false_or, Bool.true_or, Bool.not_true, Bool.not_false, Bool.true_and, Bool.false_and, Bool.and_true, Bool.or_false, Bool.or_true, Bool.false_eq_true, o_add, o_sub, c_eqI, c_neI, c_lt, c_le, c_gt, c_ge, c_is, c_isnot, b_lenL, b_lenT, b_int, b_tupL, b_tupT, b_lstL, b_lstT, i_sL, i_sT, i_eL, i_eT, slT, slLs, sl1, isiD, tyD, xl]) k4) (by simp only [exs, ex, ev, evs, rb_ok, rb_exc, ro_ok, ro_exc, ob_nx, ob_rt, ob_exc, oo_some, rs_some, an_nx, an_rt, an_exc, bi_some, bi_some', FD.start, List.map_cons, List.map_nil, List.length_cons, List.length_nil, List.cons_append, List.nil_append, List.replicate, List.getElem?_cons_zero, List.getElem?_cons_succ, List.set_cons_zero, List.set_cons_succ, asg, asgs, asgN, asgNs, T.names, T.namess, wipeE, frzE, Option.map_some, if_true, if_false, reduceCtorEq, Nat.zero_add, Nat.reduceAdd, Nat.reduceSub, Nat.reduceLT, Nat.reduceLeDiff, E.isNon, D.isI, Bool.false_or, Bool.true_or, Bool.not_true, Bool.not_false, Bool.true_and, Bool.false_and, Bool.and_true, Bool.or_false, Bool.or_true, Bool.false_eq_true, o_add, o_sub, c_eqI, c_neI, c_lt, c_le, c_gt, c_ge, c_is, c_isnot, b_lenL, b_lenT, b_int, b_tupL, b_tupT, b_lstL, b_lstT, i_sL, i_sT, i_eL, i_eT, slT, slLs, sl1, isiD, tyD]) n3) rfl ?_
    refine seq_for (fun ρ => ∃ a, ρ = rr p d m l wr no ba b a c) (ds := [.lst [.fn (ix.fn 17), .fn (ix.fn 19)]]) (st1 := rowSt ns s3) (by simp only [exs, ex, ev, evs, rb_ok, rb_exc, ro_ok, ro_exc, ob_nx, ob_rt, ob_exc, oo_some, rs_some, an_nx, an_rt, an_exc, bi_some, bi_some', FD.start, List.map_cons, List.map_nil, List.length_cons, List.length_nil, List.cons_append, List.nil_append, List.replicate, List.getElem?_cons_zero, List.getElem?_cons_succ, List.set_cons_zero, List.set_cons_succ, asg, asgs, asgN, asgNs, T.names, T.namess, wipeE, frzE, Option.map_some, if_true, if_false, reduceCtorEq, Nat.zero_add, Nat.reduceAdd, Nat.reduceSub, Nat.reduceLT, Nat.reduceLeDiff, E.isNon, D.isI, Bool.false_or, Bool.true_or, Bool.not_true, Bool.not_false, Bool.true_and, Bool.false_and, Bool.and_true, Bool.or_false, Bool.or_true, Bool.false_eq_true, o_add, o_sub, c_eqI, c_neI, c_lt, c_le, c_gt, c_ge, c_is, c_isnot, b_lenL, b_lenT, b_int, b_tupL, b_tupT, b_lstL, b_lstT, i_sL, i_sT, i_eL, i_eT, slT, slLs, sl1, isiD, tyD]) rfl ⟨_, rfl⟩ (by
      rintro x hx ρ ⟨a, rfl⟩
      simp only [List.mem_cons, List.not_mem_nil, or_false] at hx
      rcases hx with rfl | rfl
      · refine ⟨rr p d m l wr no ba b (.val (.fn (ix.fn 17))) c, ?_, _, rfl⟩
        rw [show asgN (.nm 9) (.fn (ix.fn 17)) (rr p d m l wr no ba b a c) = some (rr p d m l wr no ba b (.val (.fn (ix.fn 17))) c) from rfl, oo_some]
        refine seq_if (st1 := rowSt ns s3) (ref_ne (ev_ref hH (by simp only [exs, ex, ev, evs, rb_ok, rb_exc, ro_ok, ro_exc, ob_nx, ob_rt, ob_exc, oo_some, rs_some, an_nx, an_rt, an_exc, bi_some, bi_some', FD.start, List.map_cons, List.map_nil, List.length_cons, List.length_nil, List.cons_append, List.nil_append, List.replicate, List.getElem?_cons_zero, List.getElem?_cons_succ, List.set_cons_zero, List.set_cons_succ, asg, asgs, asgN, asgNs, T.names, T.namess, wipeE, frzE, Option.map_some, if_true, if_false, reduceCtorEq, Nat.zero_add, Nat.reduceAdd, Nat.reduceSub, Nat.reduceLT, Nat.reduceLeDiff, E.isNon, D.isI, Bool.false_or, Bool.true_or, Bool.not_true, Bool.not_false, Bool.true_and, Bool.false_and, Bool.and_true, Bool.or_false, Bool.or_true, Bool.false_eq_true, o_add, o_sub, c_eqI, c_neI, c_lt, c_le, c_gt, c_ge, c_is, c_isnot, b_lenL, b_lenT, b_int, b_tupL, b_tupT, b_lstL, b_lstT, i_sL, i_sT, i_eL, i_eT, slT, slLs, sl1, isiD, tyD, b3.h17, Option.isSome_some, x_count_keys b0 b2 b3 (show 6 ≤ k + 8 by omega) qd ql qe q2]) k5) (by simp only [exs, ex, ev, evs, rb_ok, rb_exc, ro_ok, ro_exc, ob_nx, ob_rt, ob_exc, oo_some, rs_some, an_nx, an_rt, an_exc, bi_some, bi_some', FD.start, List.map_cons, List.map_nil, List.length_cons, List.length_nil, List.cons_append, List.nil_append, List.replicate, List.getElem?_cons_zero, List.getElem?_cons_succ, List.set_cons_zero, List.set_cons_succ, asg, asgs, asgN, asgNs, T.names, T.namess, wipeE, frzE, Option.map_some, if_true, if_false, reduceCtorEq, Nat.zero_add, Nat.reduceAdd, Nat.reduceSub, Nat.reduceLT, Nat.reduceLeDiff, E.isNon, D.isI, Bool.false_or, Bool.true_or, Bool.not_true, Bool.not_false, Bool.true_and, Bool.false_and, Bool.and_true, Bool.or_false, Bool.or_true, Bool.false_eq_true, o_add, o_sub, c_eqI, c_neI, c_lt, c_le, c_gt, c_ge, c_is, c_isnot, b_lenL, b_lenT, b_int, b_tupL, b_tupT, b_lstL, b_lstT, i_sL, i_sT, i_eL, i_eT, slT, slLs, sl1, isiD, tyD]) q3) rfl rfl
      · refine ⟨rr p d m l wr no ba b (.val (.fn (ix.fn 19))) c, ?_, _, rfl⟩
        rw [show asgN (.nm 9) (.fn (ix.fn 19)) (rr p d m l wr no ba b a c) = some (rr p d m l wr no ba b (.val (.fn (ix.fn 19))) c) from rfl, oo_some]
        refine seq_if (st1 := rowSt ns s3) (ref_ne (ev_ref hH (by simp only [exs, ex, ev, evs, rb_ok, rb_exc, ro_ok, ro_exc, ob_nx, ob_rt, ob_exc, oo_some, rs_some, an_nx, an_rt, an_exc, bi_some, bi_some', FD.start, List.map_cons, List.map_nil, List.length_cons, List.length_nil, List.cons_append, List.nil_append, List.replicate, List.getElem?_cons_zero, List.getElem?_cons_succ, List.set_cons_zero, List.set_cons_succ, asg, asgs, asgN, asgNs, T.names, T.namess, wipeE, frzE, Option.map_some, if_true, if_false, reduceCtorEq, Nat.zero_add, Nat.reduceAdd, Nat.reduceSub, Nat.reduceLT, Nat.reduceLeDiff, E.isNon, D.isI, Bool.false_or, Bool.true_or, Bool.not_true, Bool.not_false, Bool.true_and, Bool.false_and, Bool.and_true, Bool.or_false, Bool.or_true, Bool.false_eq_true, o_add, o_sub, c_eqI, c_neI, c_lt, c_le, c_gt, c_ge, c_is, c_isnot, b_lenL, b_lenT, b_int, b_tupL, b_tupT, b_lstL, b_lstT, i_sL, i_sT, i_eL, i_eT, slT, slLs, sl1, isiD, tyD, h19, Option.isSome_some, x_is_shut b0 b2 b3 h19 (show 7 ≤ k + 8 by omega) qd ql qe q2]) k5) (by simp only [exs, ex, ev, evs, rb_ok, rb_exc, ro_ok, ro_exc, ob_nx, ob_rt, ob_exc, oo_some, rs_some, an_nx, an_rt, an_exc, bi_some, bi_some', FD.start, List.map_cons, List.map_nil, List.length_cons, List.length_nil, List.cons_append, List.nil_append, List.replicate, List.getElem?_cons_zero, List.getElem?_cons_succ, List.set_cons_zero, List.set_cons_succ, asg, asgs, asgN, asgNs, T.names, T.namess, wipeE, frzE, Option.map_some, if_true, if_false, reduceCtorEq, Nat.zero_add, Nat.reduceAdd, Nat.reduceSub, Nat.reduceLT, Nat.reduceLeDiff, E.isNon, D.isI, Bool.false_or, Bool.true_or, Bool.not_true, Bool.not_false, Bool.true_and, Bool.false_and, Bool.and_true, Bool.or_false, Bool.or_true, Bool.false_eq_true, o_add, o_sub, c_eqI, c_neI, c_lt, c_le, c_gt, c_ge, c_is, c_isnot, b_lenL, b_lenT, b_int, b_tupL, b_tupT, b_lstL, b_lstT, i_sL, i_sT, i_eL, i_eT, slT, slLs, sl1, isiD, tyD]) q3) rfl rfl) (fun ρ' ⟨a, hρ⟩ => ?_)
    subst hρ
    have xo := x_opens_lock (w := w) (st := rowSt ns s3) b0 b1 b2 b3 h15 (show 6 ≤ k + 8 by omega) (m := (m : Int)) hk qd ql qe q2
    rw [← rep_tI] at xo
    refine seq_for (fun ρ => ∃ a c, ρ = rr p d m l wr no ba b a c) (ds := [.lst [.tup [.fn (ix.fn 15), repD (.int 0) p], .tup [.fn (ix.fn 20), tTt l]]]) (st1 := rowSt ns s3) (by simp only [exs, ex, ev, evs, rb_ok, rb_exc, ro_ok, ro_exc, ob_nx, ob_rt, ob_exc, oo_some, rs_some, an_nx, an_rt, an_exc, bi_some, bi_some', FD.start, List.map_cons, List.map_nil, List.length_cons, List.length_nil, List.cons_append, List.nil_append, List.replicate, List.getElem?_cons_zero, List.getElem?_cons_succ, List.set_cons_zero, List.set_cons_succ, asg, asgs, asgN, asgNs, T.names, T.namess, wipeE, frzE, Option.map_some, if_true, if_false, reduceCtorEq, Nat.zero_add, Nat.reduceAdd, Nat.reduceSub, Nat.reduceLT, Nat.reduceLeDiff, E.isNon, D.isI, Bool.false_or, Bool.true_or, Bool.not_true, Bool.not_false, Bool.true_and, Bool.false_and, Bool.and_true, Bool.or_false, Bool.or_true, Bool.false_eq_true, o_add, o_sub, c_eqI, c_neI, c_lt, c_le, c_gt, c_ge, c_is, c_isnot, b_lenL, b_lenT, b_int, b_tupL, b_tupT, b_lstL, b_lstT, i_sL, i_sT, i_eL, i_eT, slT, slLs, sl1, isiD, tyD]) rfl ⟨_, _, rfl⟩ (by
      rintro x hx ρ ⟨a, c, rfl⟩
      simp only [List.mem_cons, List.not_mem_nil, or_false] at hx
      rcases hx with rfl | rfl
      · refine ⟨rr p d m l wr no ba b (.val (.fn (ix.fn 15))) (.val (repD (.int 0) p)), ?_, _, _, rfl⟩
        rw [show asgN (.tup [.nm 9, .nm 10]) (.tup [.fn (ix.fn 15), repD (.int 0) p]) (rr p d m l wr no ba b a c) = some (rr p d m l wr no ba b (.val (.fn (ix.fn 15))) (.val (repD (.int 0) p))) from rfl, oo_some]
        refine seq_if (st1 := rowSt ns s3) (ref_ne (ev_ref hH (by simp only [exs, ex, ev, evs, rb_ok, rb_exc, ro_ok, ro_exc, ob_nx, ob_rt, ob_exc, oo_some, rs_some, an_nx, an_rt, an_exc, bi_some, bi_some', FD.start, List.map_cons, List.map_nil, List.length_cons, List.length_nil, List.cons_append, List.nil_append, List.replicate, List.getElem?_cons_zero, List.getElem?_cons_succ, List.set_cons_zero, List.set_cons_succ, asg, asgs, asgN, asgNs, T.names, T.namess, wipeE, frzE, Option.map_some, if_true, if_false, reduceCtorEq, Nat.zero_add, Nat.reduceAdd, Nat.reduceSub, Nat.reduceLT, Nat.reduceLeDiff, E.isNon, D.isI, Bool.false_or, Bool.true_or, Bool.not_true, Bool.not_false, Bool.true_and, Bool.false_and, Bool.and_true, Bool.or_false, Bool.or_true, Bool.false_eq_true, o_add, o_sub, c_eqI, c_neI, c_lt, c_le, c_gt, c_ge, c_is, c_isnot, b_lenL, b_lenT, b_int, b_tupL, b_tupT, b_lstL, b_lstT, i_sL, i_sT, i_eL, i_eT, slT, slLs, sl1, isiD, tyD, h15, Option.isSome_some, xo]) k5) (by simp only [exs, ex, ev, evs, rb_ok, rb_exc, ro_ok, ro_exc, ob_nx, ob_rt, ob_exc, oo_some, rs_some, an_nx, an_rt, an_exc, bi_some, bi_some', FD.start, List.map_cons, List.map_nil, List.length_cons, List.length_nil, List.cons_append, List.nil_append, List.replicate, List.getElem?_cons_zero, List.getElem?_cons_succ, List.set_cons_zero, List.set_cons_succ, asg, asgs, asgN, asgNs, T.names, T.namess, wipeE, frzE, Option.map_some, if_true, if_false, reduceCtorEq, Nat.zero_add, Nat.reduceAdd, Nat.reduceSub, Nat.reduceLT, Nat.reduceLeDiff, E.isNon, D.isI, Bool.false_or, Bool.true_or, Bool.not_true, Bool.not_false, Bool.true_and, Bool.false_and, Bool.and_true, Bool.or_false, Bool.or_true, Bool.false_eq_true, o_add, o_sub, c_eqI, c_neI, c_lt, c_le, c_gt, c_ge, c_is, c_isnot, b_lenL, b_lenT, b_int, b_tupL, b_tupT, b_lstL, b_lstT, i_sL, i_sT, i_eL, i_eT, slT, slLs, sl1, isiD, tyD]) q3) rfl rfl
      · refine ⟨rr p d m l wr no ba b (.val (.fn (ix.fn 20))) (.val (tTt l)), ?_, _, _, rfl⟩
        rw [show asgN (.tup [.nm 9, .nm 10]) (.tup [.fn (ix.fn 20), tTt l]) (rr p d m l wr no ba b a c) = some (rr p d m l wr no ba b (.val (.fn (ix.fn 20))) (.val (tTt l))) from rfl, oo_some]
        refine seq_if (st1 := rowSt ns s3) (ref_ne (ev_ref hH (by simp only [exs, ex, ev, evs, rb_ok, rb_exc, ro_ok, ro_exc, ob_nx, ob_rt, ob_exc, oo_some, rs_some, an_nx, an_rt, an_exc, bi_some, bi_some', FD.start, List.map_cons, List.map_nil, List.length_cons, List.length_nil, List.cons_append, List.nil_append, List.replicate, List.getElem?_cons_zero, List.getElem?_cons_succ, List.set_cons_zero, List.set_cons_succ, asg, asgs, asgN, asgNs, T.names, T.namess, wipeE, frzE, Option.map_some, if_true, if_false, reduceCtorEq, Nat.zero_add, Nat.reduceAdd, Nat.reduceSub, Nat.reduceLT, Nat.reduceLeDiff, E.isNon, D.isI, Bool.false_or, Bool.true_or, Bool.not_true, Bool.not_false, Bool.true_and, Bool.false_and, Bool.and_true, Bool.or_false, Bool.or_true, Bool.false_eq_true, o_add, o_sub, c_eqI, c_neI, c_lt, c_le, c_gt, c_ge, c_is, c_isnot, b_lenL, b_lenT, b_int, b_tupL, b_tupT, b_lstL, b_lstT, i_sL, i_sT, i_eL, i_eT, slT, slLs, sl1, isiD, tyD, h20, Option.isSome_some, x_common b0 b2 b3 h20 (show 6 ≤ k + 8 by omega) hl qd ql qe q2]) k5) (by simp only [exs, ex, ev, evs, rb_ok, rb_exc, ro_ok, ro_exc, ob_nx, ob_rt, ob_exc, oo_some, rs_some, an_nx, an_rt, an_exc, bi_some, bi_some', FD.start, List.map_cons, List.map_nil, List.length_cons, List.length_nil, List.cons_append, List.nil_append, List.replicate, List.getElem?_cons_zero, List.getElem?_cons_succ, List.set_cons_zero, List.set_cons_succ, asg, asgs, asgN, asgNs, T.names, T.namess, wipeE, frzE, Option.map_some, if_true, if_false, reduceCtorEq, Nat.zero_add, Nat.reduceAdd, Nat.reduceSub, Nat.reduceLT, Nat.reduceLeDiff, E.isNon, D.isI, Bool.false_or, Bool.true_or, Bool.not_true, Bool.not_false, Bool.true_and, Bool.false_and, Bool.and_true, Bool.or_false, Bool.or_true, Bool.false_eq_true, o_add, o_sub, c_eqI, c_neI, c_lt, c_le, c_gt, c_ge, c_is, c_isnot, b_lenL, b_lenT, b_int, b_tupL, b_tupT, b_lstL, b_lstT, i_sL, i_sT, i_eL, i_eT, slT, slLs, sl1, isiD, tyD]) q3) rfl rfl) (fun ρ' ⟨a, c, hρ⟩ => ?_)
    subst hρ
    have lz := gLock_nodup hl
    have r1 : locksR p d m (.lst [tTt l, ba]) = some (.int 1) := by
      simp [locksR, hl.1, q2, List.zipIdx, List.find?_cons]
    have d1 := x_doors_locks (w := w) (st := rowSt ns s3) b0 b1 b2 h16 (show 6 ≤ k + 8 by omega) (m := (m : Int)) hk (t := .lst [tTt l, ba]) (by simp only [D.deep, D.deeps, qd, deep_int, Bool.and_true]; exact deep_tT (l := l)) (by simp [D.items]) (fun e he => by
      simp only [D.items, List.mem_cons, List.not_mem_nil, or_false] at he
      rcases he with rfl | rfl
      · exact ⟨by simpa [D.items] using hl.2.1, tT_he hl.2.2⟩
      · exact ⟨ql, qe⟩) r1
    rw [← rep_tI] at d1
    have d2 := x_doors_locks (w := w) (st := rowSt ns s3) b0 b1 b2 h16 (show 6 ≤ k + 8 by omega) (m := (m : Int)) hk (t := .non) (v := .int (-1)) rfl (by simp [D.items]) (fun e he => nomatch he) rfl
    rw [← rep_tI] at d2
    have f1 : ev pr (callsN pr w (k + 8)) (.refused (ix.fn 36) (.call (ix.fn 16) [.var 2, .var 5, .lst [.var 3, .var 7]])) (rr p d m l wr no ba b a c) (rowSt ns s3) = .ok (.tup [.str "locks", .int 1]) (rowSt ns s3) := ev_ref hH (by simp only [exs, ex, ev, evs, rb_ok, rb_exc, ro_ok, ro_exc, ob_nx, ob_rt, ob_exc, oo_some, rs_some, an_nx, an_rt, an_exc, bi_some, bi_some', FD.start, List.map_cons, List.map_nil, List.length_cons, List.length_nil, List.cons_append, List.nil_append, List.replicate, List.getElem?_cons_zero, List.getElem?_cons_succ, List.set_cons_zero, List.set_cons_succ, asg, asgs, asgN, asgNs, T.names, T.namess, wipeE, frzE, Option.map_some, if_true, if_false, reduceCtorEq, Nat.zero_add, Nat.reduceAdd, Nat.reduceSub, Nat.reduceLT, Nat.reduceLeDiff, E.isNon, D.isI, Bool.false_or, Bool.true_or, Bool.not_true, Bool.not_false, Bool.true_and, Bool.false_and, Bool.and_true, Bool.or_false, Bool.or_true, Bool.false_eq_true, o_add, o_sub, c_eqI, c_neI, c_lt, c_le, c_gt, c_ge, c_is, c_isnot, b_lenL, b_lenT, b_int, b_tupL, b_tupT, b_lstL, b_lstT, i_sL, i_sT, i_eL, i_eT, slT, slLs, sl1, isiD, tyD, d1]) k6
    have f2 : ev pr (callsN pr w (k + 8)) (.refused (ix.fn 36) (.call (ix.fn 16) [.var 2, .var 5, .k .non])) (rr p d m l wr no ba b a c) (rowSt ns s3) = .ok (.tup [.str "locks", .int (-1)]) (rowSt ns s3) := ev_ref hH (by simp only [exs, ex, ev, evs, rb_ok, rb_exc, ro_ok, ro_exc, ob_nx, ob_rt, ob_exc, oo_some, rs_some, an_nx, an_rt, an_exc, bi_some, bi_some', FD.start, List.map_cons, List.map_nil, List.length_cons, List.length_nil, List.cons_append, List.nil_append, List.replicate, List.getElem?_cons_zero, List.getElem?_cons_succ, List.set_cons_zero, List.set_cons_succ, asg, asgs, asgN, asgNs, T.names, T.namess, wipeE, frzE, Option.map_some, if_true, if_false, reduceCtorEq, Nat.zero_add, Nat.reduceAdd, Nat.reduceSub, Nat.reduceLT, Nat.reduceLeDiff, E.isNon, D.isI, Bool.false_or, Bool.true_or, Bool.not_true, Bool.not_false, Bool.true_and, Bool.false_and, Bool.and_true, Bool.or_false, Bool.or_true, Bool.false_eq_true, o_add, o_sub, c_eqI, c_neI, c_lt, c_le, c_gt, c_ge, c_is, c_isnot, b_lenL, b_lenT, b_int, b_tupL, b_tupT, b_lstL, b_lstT, i_sL, i_sT, i_eL, i_eT, slT, slLs, sl1, isiD, tyD, d2]) k6
    have ls : strOk "locks" = true := by decide +kernel
    refine seq_if (st1 := rowSt ns s3) (by
      rw [show ∀ x y, ev pr (callsN pr w (k + 8)) (.cmp .ne x y) (rr p d m l wr no ba b a c) (rowSt ns s3) = (ev pr (callsN pr w (k + 8)) x (rr p d m l wr no ba b a c) (rowSt ns s3)).bind fun x st => (ev pr (callsN pr w (k + 8)) y (rr p d m l wr no ba b a c) st).bind fun y st => R.ofOpt ((opC .ne x y).map .bl) st from fun x y => by simp only [ev]]
      rw [f1]
      simp only [exs, ex, ev, evs, rb_ok, rb_exc, ro_ok, ro_exc, ob_nx, ob_rt, ob_exc, oo_some, rs_some, an_nx, an_rt, an_exc, bi_some, bi_some', FD.start, List.map_cons, List.map_nil, List.length_cons, List.length_nil, List.cons_append, List.nil_append, List.replicate, List.getElem?_cons_zero, List.getElem?_cons_succ, List.set_cons_zero, List.set_cons_succ, asg, asgs, asgN, asgNs, T.names, T.namess, wipeE, frzE, Option.map_some, if_true, if_false, reduceCtorEq, Nat.zero_add, Nat.reduceAdd, Nat.reduceSub, Nat.reduceLT, Nat.reduceLeDiff, E.isNon, D.isI, Bool.false_or, Bool.true_or, Bool.not_true, Bool.not_false, Bool.true_and, Bool.false_and, Bool.and_true, Bool.or_false, Bool.or_true, Bool.false_eq_true, o_add, o_sub, c_eqI, c_neI, c_lt, c_le, c_gt, c_ge, c_is, c_isnot, b_lenL, b_lenT, b_int, b_tupL, b_tupT, b_lstL, b_lstT, i_sL, i_sT, i_eL, i_eT, slT, slLs, sl1, isiD, tyD, c_neW ls]) rfl ?_
    show (ex pr (callsN pr w (k + 8)) w (.ret (.cmp .eq _ _)) _ _).bind _ = _
    rw [show ∀ x y, ex pr (callsN pr w (k + 8)) w (.ret (.cmp .eq x y)) (rr p d m l wr no ba b a c) (rowSt ns s3) = ((ev pr (callsN pr w (k + 8)) x (rr p d m l wr no ba b a c) (rowSt ns s3)).bind fun x st => (ev pr (callsN pr w (k + 8)) y (rr p d m l wr no ba b a c) st).bind fun y st => R.ofOpt ((opC .eq x y).map .bl) st).out fun d st => .rt d st from fun x y => by simp only [ex, ev]]
    rw [f2]
    simp only [exs, ex, ev, evs, rb_ok, rb_exc, ro_ok, ro_exc, ob_nx, ob_rt, ob_exc, oo_some, rs_some, an_nx, an_rt, an_exc, bi_some, bi_some', FD.start, List.map_cons, List.map_nil, List.length_cons, List.length_nil, List.cons_append, List.nil_append, List.replicate, List.getElem?_cons_zero, List.getElem?_cons_succ, List.set_cons_zero, List.set_cons_succ, asg, asgs, asgN, asgNs, T.names, T.namess, wipeE, frzE, Option.map_some, if_true, if_false, reduceCtorEq, Nat.zero_add, Nat.reduceAdd, Nat.reduceSub, Nat.reduceLT, Nat.reduceLeDiff, E.isNon, D.isI, Bool.false_or, Bool.true_or, Bool.not_true, Bool.not_false, Bool.true_and, Bool.false_and, Bool.and_true, Bool.or_false, Bool.or_true, Bool.false_eq_true, o_add, o_sub, c_eqI, c_neI, c_lt, c_le, c_gt, c_ge, c_is, c_isnot, b_lenL, b_lenT, b_int, b_tupL, b_tupT, b_lstL, b_lstT, i_sL, i_sT, i_eL, i_eT, slT, slLs, sl1, isiD, tyD, c_eqW ls]
  rw [body]
  rfl
end
end Mini.K00
end
section
set_option Elab.async false
set_option linter.all false
set_option maxRecDepth 100000
set_option maxHeartbeats 4000000
/-! # law k00 -/
namespace Mini.K00
open PySem Mini Mini.P
theorem h23 : pr.defs (ix.fn 23) = some (d__law_alike ix) := rfl
theorem h24 : pr.defs (ix.fn 24) = some (d__law_unlike ix) := rfl
theorem h26 : pr.defs (ix.fn 26) = some (d__law_number ix) := rfl
theorem h33 : pr.defs (ix.fn 33) = some (d__law_good_lock ix) := rfl
theorem h30 : pr.defs (ix.fn 30) = some (d__law_fits ix) := rfl
theorem al_ints {l : List Int} : D.als (l.map .int) = true := als_of fun d hd => by
  obtain ⟨i, _, rfl⟩ := List.mem_map.mp hd
  rfl
theorem al_tI {l : List Int} (h : l.length ≤ 1000000) : (tI l).al = true := by simp [D.al, al_ints, h]
theorem al_keys {ks : List (List Int)} (h : ks.length ≤ 1000000) (hk : ∀ k ∈ ks, k.length ≤ 1000000) : (D.lst (ks.map tI)).al = true := by
  simp only [D.al, Bool.and_eq_true, decide_eq_true_eq, List.length_map]
  exact ⟨als_of fun d hd => by
    obtain ⟨k, hkm, rfl⟩ := List.mem_map.mp hd
    exact al_tI (hk k hkm), h⟩
theorem al_tT {l : List (List Int)} (h : l.length ≤ 1000000) (hk : ∀ k ∈ l, k.length ≤ 1000000) : (tTt l).al = true := by
  simp only [D.al, Bool.and_eq_true, decide_eq_true_eq, List.length_map]
  exact ⟨als_of fun d hd => by
    obtain ⟨k, hkm, rfl⟩ := List.mem_map.mp hd
    exact al_tI (hk k hkm), h⟩
theorem al_lst {l : List D} (h : ∀ d ∈ l, d.al = true) (hl : l.length ≤ 1000000) : (D.lst l).al = true := by
  simp only [D.al, Bool.and_eq_true, decide_eq_true_eq]
  exact ⟨als_of h, hl⟩
theorem c_inK {q : List Int} {ks : List (List Int)} : opC .isin (tI q) (.lst (ks.map tI)) = some (ks.contains q) := by
  show inD _ _ = _
  unfold inD
  have hd : min (tI q).depth (D.depths (ks.map tI)) ≤ 60 := Nat.le_trans (Nat.min_le_left _ _) (by rw [depth_tI]; decide)
  rw [plain_tI, plains_tI]
  simp only [Bool.true_and, hd, decide_true, if_true]
  congr 1
  rw [List.any_map, List.contains_eq_any_beq]
  congr 1
  funext z
  simp only [Function.comp, eqv_tI]
  exact Bool.beq_comm
theorem zip_range {α : Type} {l : List α} {x : α} : l.zipIdx = (List.range l.length).map fun i => (l.getD i x, i) := by
  apply List.ext_getElem
  · simp
  · intro i h1 h2
    simp only [List.length_zipIdx] at h1
    simp [List.getElem?_eq_getElem h1]
theorem doors_range {q : List Int} {ls : List (List (List Int))} : (List.range ls.length).filterMap (fun i => if fitsB q (ls.getD i []) then some (D.int (i : Int)) else none) = doorsB q ls := by
  unfold doorsB
  rw [zip_range (x := []), List.filterMap_map]
  rfl
theorem or_ff {P : Prog} {C : Calls} {ρ : Env} {st st1 st2 : Store} {a b : E} (h1 : ev P C a ρ st = .ok (.bl false) st1) (h2 : ev P C b ρ st1 = .ok (.bl false) st2) : ev P C (.or a b) ρ st = .ok (.bl false) st2 := by
  simp only [exs, ex, ev, evs, rb_ok, rb_exc, ro_ok, ro_exc, ob_nx, ob_rt, ob_exc, oo_some, rs_some, an_nx, an_rt, an_exc, bi_some, bi_some', FD.start, List.map_cons, List.map_nil, List.length_cons, List.length_nil, List.cons_append, List.nil_append, List.replicate, List.getElem?_cons_zero, List.getElem?_cons_succ, List.set_cons_zero, List.set_cons_succ, asg, asgs, asgN, asgNs, T.names, T.namess, wipeE, frzE, Option.map_some, if_true, if_false, reduceCtorEq, Nat.zero_add, Nat.reduceAdd, Nat.reduceSub, Nat.reduceLT, Nat.reduceLeDiff, E.isNon, D.isI, Bool.false_or, Bool.true_or, Bool.not_true, Bool.not_false, Bool.true_and, Bool.false_and, Bool.and_true, Bool.or_false, Bool.or_true, Bool.false_eq_true, o_add, o_sub, c_eqI, c_neI, c_lt, c_le, c_gt, c_ge, c_is, c_isnot, b_lenL, b_lenT, b_int, b_tupL, b_tupT, b_lstL, b_lstT, i_sL, i_sT, i_eL, i_eT, slT, slLs, sl1, isiD, tyD, h1, h2]
theorem leastB_len {p : Nat} {ks : List (List Int)} : (leastB p ks).length = p ∧ ∀ e ∈ leastB p ks, e.length ≤ ks.length := by
  unfold leastB
  refine ⟨by simp, fun e he => ?_⟩
  obtain ⟨i, _, rfl⟩ := List.mem_map.mp he
  have := sortU_len (ks.map fun k => k.getD i 0)
  simpa using this
theorem depth_keys {ks : List (List Int)} : (D.lst (ks.map tI)).depth ≤ 2 := by
  have := depths_tI ks
  simp only [D.depth]
  omega
theorem alk_if {P : Prog} {C : Calls} {ρ : Env} {st : Store} {f : Nat} {x y : E} {v : D} (e1 : ev P C x ρ st = .ok v st) (e2 : ev P C y ρ st = .ok v st) (ha : C.call f [v, v] st = .ok (.bl true) st) : ev P C (.not (.call f [x, y])) ρ st = .ok (.bl false) st := by
  simp only [exs, ex, ev, evs, rb_ok, rb_exc, ro_ok, ro_exc, ob_nx, ob_rt, ob_exc, oo_some, rs_some, an_nx, an_rt, an_exc, bi_some, bi_some', FD.start, List.map_cons, List.map_nil, List.length_cons, List.length_nil, List.cons_append, List.nil_append, List.replicate, List.getElem?_cons_zero, List.getElem?_cons_succ, List.set_cons_zero, List.set_cons_succ, asg, asgs, asgN, asgNs, T.names, T.namess, wipeE, frzE, Option.map_some, if_true, if_false, reduceCtorEq, Nat.zero_add, Nat.reduceAdd, Nat.reduceSub, Nat.reduceLT, Nat.reduceLeDiff, E.isNon, D.isI, Bool.false_or, Bool.true_or, Bool.not_true, Bool.not_false, Bool.true_and, Bool.false_and, Bool.and_true, Bool.or_false, Bool.or_true, Bool.false_eq_true, o_add, o_sub, c_eqI, c_neI, c_lt, c_le, c_gt, c_ge, c_is, c_isnot, b_lenL, b_lenT, b_int, b_tupL, b_tupT, b_lstL, b_lstT, i_sL, i_sT, i_eL, i_eT, slT, slLs, sl1, isiD, tyD, e1, e2, ha]
theorem ok_tT {l : List (List Int)} (h : l.length ≤ 1000000) (hk : ∀ k ∈ l, k.length ≤ 1000000) : okThing (tTt l) = true := by
  unfold okThing
  simp only [Bool.and_eq_true, decide_eq_true_eq, List.all_eq_true]
  exact ⟨⟨deep_tT, by simpa [D.items] using h⟩, tT_he hk⟩
theorem reps_ok : ([1, 2, 3] : List Nat).all (fun p => ([.tup [.int 1, .int 0], .tup [.int 0, .int 0], .tup [.int 0, .non], .tup [.int (-1)]] : List D).all fun x => okThing (repD x p) && (repD x p).plain) = true := by decide +kernel
theorem reps2_ok : ([1, 2, 3] : List Nat).all (fun p => ([.int 2, .int 3, .int 4, .bl false, .int (-1)] : List D).all fun x => okThing (repD x p) && (repD x p).plain) = true := by decide +kernel
section
variable {w n : Nat} {ns : List Int} {p d m : Nat} {l : List (List Int)} {ls : List (List (List Int))}
theorem s_law (ns : List Int) (w k : Nat) : ∃ st, (callsN pr w (k + 11)).call (ix.fn 37) [.scr ns] [] = .ok (.bl true) st := by
  rw [call_at (n := k + 10) (show pr.defs (ix.fn 37) = some (d_law ix) from rfl) rfl]
  obtain ⟨p, d, m, s1, e1, h1, hmk⟩ := s_law_make (w := w) (ns := ns) bl (show pr.defs (ix.fn 27) = some (d__law_make ix) from rfl) (show 3 ≤ k + 10 by omega) (s := (0, 601, 0)) (Int.le_refl 0)
  have hle := hmk.le
  have hm2 := hmk.2
  have kb := keysL_bound (d := d) (p := p) hle.2.2.2 hle.2.1
  have klen : (keysL d p).length ≤ 1000000 := kb p (Nat.le_refl _)
  have kk : ∀ k ∈ keysL d p, k.length = p := fun k hk => (keysL_len k hk).1
  have kl : ∀ k ∈ keysL d p, k.length ≤ 1000000 := fun k hk => by rw [kk k hk]; omega
  have gk : ∀ k ∈ keysL d p, gKey p d k := fun k hk => keysL_key hk (by omega)
  -- the make
  have emk : (callsN pr w (k + 10)).init (ix.cls 0) [.int (p : Int), .int (d : Int), .int (m : Int)] (rowSt ns s1) = .ok [.int (p : Int), .int (d : Int), .int (m : Int)] (rowSt ns s1) := by
    rw [s_make b0 (show 3 ≤ k + 10 by omega) rfl rfl rfl, show D.wi 1 3 (.int (p : Int)) = true by simp [D.wi]; omega, show D.wi 1 4 (.int (d : Int)) = true by simp [D.wi]; omega]
    simp only [if_true, show D.wi 1 (d : Int) (.int (m : Int)) = true by simp [D.wi]; omega]
  have hchg : pr.chg (ix.cls 0) = false := rfl
  have eks := s_law_keys (w := w) (st := rowSt ns s1) (show pr.defs (ix.fn 28) = some (d__law_keys ix) from rfl) (show 1 ≤ k + 10 by omega) (m := (m : Int)) (show d ≤ 10 by omega) (show p ≤ 10 by omega) kb
  have eak := s_all_keys (w := w) (st := rowSt ns s1) b0 b2 (show 2 ≤ k + 10 by omega) (m := (m : Int)) (show d ≤ 10 by omega) (show p ≤ 10 by omega) kb
  have at1 : atD [D.int (p : Int), .int (d : Int), .int (m : Int)] 1 = some (.int d) := rfl
  have at0 : atD [D.int (p : Int), .int (d : Int), .int (m : Int)] 0 = some (.int p) := rfl
  have at2 : atD [D.int (p : Int), .int (d : Int), .int (m : Int)] 2 = some (.int m) := rfl
  -- the locks
  obtain ⟨l, s2, e2, h2, hl⟩ := s_law_lock (w := w) (ns := ns) bl (show pr.defs (ix.fn 25) = some (d__law_shuffled ix) from rfl) (show pr.defs (ix.fn 32) = some (d__law_lock ix) from rfl) (show 3 ≤ k + 10 by omega) h1 (p := p) (d := d) (m := m) (by omega) (by omega) (by omega) (by omega)
  obtain ⟨r5, s3, e3, h3, r50, r51⟩ := s_taken (w := w) (ns := ns) bl (show 1 ≤ k + 10 by omega) h2 (m := 5) (by omega) (by omega)
  obtain ⟨ys, st4, e4, ⟨s4, rfl, h4⟩, hys, hyl⟩ := compL_inv (enc := fun (k : Nat) => D.int (k : Int)) (xs := List.range r5.toNat) (fun st => ∃ s, st = rowSt ns s ∧ RowOk s) (fun y => ∃ l, y = tTt l ∧ gLock p d m l) (st := rowSt ns s3) ⟨s3, rfl, h3⟩
    (turn := fun t st => match asgN (.nm 7) t (wipeE [.val (.scr ns), .val (.ptr 0), .val (mkT p d m), .val (mkD ix p d m), .val (.lst ((keysL d p).map tI)), .no, .no, .no, .no, .no, .no, .no, .no, .no, .no] (T.nm 7).names) with
        | some ρ1 => (ev pr (callsN pr w (k + 10)) (.k (.bl true)) ρ1 st).bind fun b st => match b with
          | .bl true => (ev pr (callsN pr w (k + 10)) (.call (ix.fn 32) [.var 1, .var 2]) ρ1 st).bind fun v st => .ok (some v) st
          | .bl false => .ok Option.none st
          | _ => .bad
        | Option.none => .bad) (by
      rintro x st ⟨s, rfl, hs⟩
      obtain ⟨l, s', e, h', hl⟩ := s_law_lock (w := w) (ns := ns) bl (show pr.defs (ix.fn 25) = some (d__law_shuffled ix) from rfl) (show pr.defs (ix.fn 32) = some (d__law_lock ix) from rfl) (show 3 ≤ k + 10 by omega) hs (p := p) (d := d) (m := m) (by omega) (by omega) (by omega) (by omega)
      refine ⟨tTt l, rowSt ns s', ?_, ⟨s', rfl, h'⟩, l, rfl, hl⟩
      simp only [exs, ex, ev, evs, rb_ok, rb_exc, ro_ok, ro_exc, ob_nx, ob_rt, ob_exc, oo_some, rs_some, an_nx, an_rt, an_exc, bi_some, bi_some', FD.start, List.map_cons, List.map_nil, List.length_cons, List.length_nil, List.cons_append, List.nil_append, List.replicate, List.getElem?_cons_zero, List.getElem?_cons_succ, List.set_cons_zero, List.set_cons_succ, asg, asgs, asgN, asgNs, T.names, T.namess, wipeE, frzE, Option.map_some, if_true, if_false, reduceCtorEq, Nat.zero_add, Nat.reduceAdd, Nat.reduceSub, Nat.reduceLT, Nat.reduceLeDiff, E.isNon, D.isI, Bool.false_or, Bool.true_or, Bool.not_true, Bool.not_false, Bool.true_and, Bool.false_and, Bool.and_true, Bool.or_false, Bool.or_true, Bool.false_eq_true, o_add, o_sub, c_eqI, c_neI, c_lt, c_le, c_gt, c_ge, c_is, c_isnot, b_lenL, b_lenT, b_int, b_tupL, b_tupT, b_lstL, b_lstT, i_sL, i_sT, i_eL, i_eT, slT, slLs, sl1, isiD, tyD, e])
  obtain ⟨ls, rfl, hls⟩ := lift_list (enc := tTt) hys
  rw [List.length_range] at hyl
  have hl8 : ls.length ≤ 8 := by rw [List.length_map] at hyl; omega
  have gl := gLock_nodup hl
  have hkne : keysL d p ≠ [] := fun z => by
    have := keysL_size (d := d) (k := p)
    rw [z] at this
    have h0 : 0 < d ^ p := Nat.pow_pos (by omega)
    simp at this
    omega
  -- some keys, one more, the refusals
  obtain ⟨r6, s5, e5, h5, r60, r61⟩ := s_taken (w := w) (ns := ns) bl (show 1 ≤ k + 10 by omega) h4 (m := 4) (by omega) (by omega)
  have pickK : ∀ s, RowOk s → ∃ x s', (callsN pr w (k + 10)).call (ix.fn 22) [.ptr 0, .lst ((keysL d p).map tI)] (rowSt ns s) = .ok (tI x) (rowSt ns s') ∧ RowOk s' ∧ x ∈ keysL d p := fun s hs => by
    obtain ⟨x, s', e, h', hx⟩ := s_pick (w := w) (ns := ns) bl (show 2 ≤ k + 10 by omega) hs (l := (keysL d p).map tI) (by simpa using hkne) (by simpa using klen)
    obtain ⟨q, hq, rfl⟩ := List.mem_map.mp hx
    exact ⟨q, s', e, h', hq⟩
  obtain ⟨zs, st6, e6, ⟨s6, rfl, h6⟩, hzs, hzl⟩ := compL_inv (enc := fun (k : Nat) => D.int (k : Int)) (xs := List.range r6.toNat) (fun st => ∃ s, st = rowSt ns s ∧ RowOk s) (fun y => ∃ l, y = tI l ∧ l ∈ keysL d p) (st := rowSt ns s5) ⟨s5, rfl, h5⟩
    (turn := fun t st => ((callsN pr w (k + 10)).call (ix.fn 22) [.ptr 0, .lst ((keysL d p).map tI)] st).bind fun v st => .ok (some v) st) (by
      rintro x st ⟨s, rfl, hs⟩
      obtain ⟨l, s', e, h', hl⟩ := pickK s hs
      refine ⟨tI l, rowSt ns s', ?_, ⟨s', rfl, h'⟩, l, rfl, hl⟩
      simp only [exs, ex, ev, evs, rb_ok, rb_exc, ro_ok, ro_exc, ob_nx, ob_rt, ob_exc, oo_some, rs_some, an_nx, an_rt, an_exc, bi_some, bi_some', FD.start, List.map_cons, List.map_nil, List.length_cons, List.length_nil, List.cons_append, List.nil_append, List.replicate, List.getElem?_cons_zero, List.getElem?_cons_succ, List.set_cons_zero, List.set_cons_succ, asg, asgs, asgN, asgNs, T.names, T.namess, wipeE, frzE, Option.map_some, if_true, if_false, reduceCtorEq, Nat.zero_add, Nat.reduceAdd, Nat.reduceSub, Nat.reduceLT, Nat.reduceLeDiff, E.isNon, D.isI, Bool.false_or, Bool.true_or, Bool.not_true, Bool.not_false, Bool.true_and, Bool.false_and, Bool.and_true, Bool.or_false, Bool.or_true, Bool.false_eq_true, o_add, o_sub, c_eqI, c_neI, c_lt, c_le, c_gt, c_ge, c_is, c_isnot, b_lenL, b_lenT, b_int, b_tupL, b_tupT, b_lstL, b_lstT, i_sL, i_sT, i_eL, i_eT, slT, slLs, sl1, isiD, tyD, e])
  obtain ⟨ks, rfl, hks⟩ := lift_list (enc := tI) hzs
  rw [List.length_range, List.length_map] at hzl
  obtain ⟨k7, s7, e7, h7, hk7⟩ := pickK s6 h6
  obtain ⟨s8, e8⟩ := s_refusals (w := w) (ns := ns) h7 hmk hl (show 9 ≤ k + 10 by omega)
  have body : exs pr (callsN pr w (k + 10)) w (d_law ix).body ((d_law ix).start ([.scr ns].map .val)) [] = .rt (.bl true) (rowSt ns s8) := by
    unfold d_law
    refine seq_nx (ρ1 := [.val (.scr ns), .val (.ptr 0), .no, .no, .no, .no, .no, .no, .no, .no, .no, .no, .no, .no, .no]) (st1 := rowSt ns (0, 601, 0)) (by simp only [exs, ex, ev, evs, rb_ok, rb_exc, ro_ok, ro_exc, ob_nx, ob_rt, ob_exc, oo_some, rs_some, an_nx, an_rt, an_exc, bi_some, bi_some', FD.start, List.map_cons, List.map_nil, List.length_cons, List.length_nil, List.cons_append, List.nil_append, List.replicate, List.getElem?_cons_zero, List.getElem?_cons_succ, List.set_cons_zero, List.set_cons_succ, asg, asgs, asgN, asgNs, T.names, T.namess, wipeE, frzE, Option.map_some, if_true, if_false, reduceCtorEq, Nat.zero_add, Nat.reduceAdd, Nat.reduceSub, Nat.reduceLT, Nat.reduceLeDiff, E.isNon, D.isI, Bool.false_or, Bool.true_or, Bool.not_true, Bool.not_false, Bool.true_and, Bool.false_and, Bool.and_true, Bool.or_false, Bool.or_true, Bool.false_eq_true, o_add, o_sub, c_eqI, c_neI, c_lt, c_le, c_gt, c_ge, c_is, c_isnot, b_lenL, b_lenT, b_int, b_tupL, b_tupT, b_lstL, b_lstT, i_sL, i_sT, i_eL, i_eT, slT, slLs, sl1, isiD, tyD]) ?_
    refine seq_nx (ρ1 := [.val (.scr ns), .val (.ptr 0), .val (mkT p d m), .no, .no, .no, .no, .no, .no, .no, .no, .no, .no, .no, .no]) (st1 := rowSt ns s1) (by simp only [exs, ex, ev, evs, rb_ok, rb_exc, ro_ok, ro_exc, ob_nx, ob_rt, ob_exc, oo_some, rs_some, an_nx, an_rt, an_exc, bi_some, bi_some', FD.start, List.map_cons, List.map_nil, List.length_cons, List.length_nil, List.cons_append, List.nil_append, List.replicate, List.getElem?_cons_zero, List.getElem?_cons_succ, List.set_cons_zero, List.set_cons_succ, asg, asgs, asgN, asgNs, T.names, T.namess, wipeE, frzE, Option.map_some, if_true, if_false, reduceCtorEq, Nat.zero_add, Nat.reduceAdd, Nat.reduceSub, Nat.reduceLT, Nat.reduceLeDiff, E.isNon, D.isI, Bool.false_or, Bool.true_or, Bool.not_true, Bool.not_false, Bool.true_and, Bool.false_and, Bool.and_true, Bool.or_false, Bool.or_true, Bool.false_eq_true, o_add, o_sub, c_eqI, c_neI, c_lt, c_le, c_gt, c_ge, c_is, c_isnot, b_lenL, b_lenT, b_int, b_tupL, b_tupT, b_lstL, b_lstT, i_sL, i_sT, i_eL, i_eT, slT, slLs, sl1, isiD, tyD, e1]) ?_
    refine seq_nx (ρ1 := [.val (.scr ns), .val (.ptr 0), .val (mkT p d m), .val (mkD ix p d m), .val (.lst ((keysL d p).map tI)), .no, .no, .no, .no, .no, .no, .no, .no, .no, .no]) (st1 := rowSt ns s1) (by simp only [exs, ex, ev, evs, rb_ok, rb_exc, ro_ok, ro_exc, ob_nx, ob_rt, ob_exc, oo_some, rs_some, an_nx, an_rt, an_exc, bi_some, bi_some', FD.start, List.map_cons, List.map_nil, List.length_cons, List.length_nil, List.cons_append, List.nil_append, List.replicate, List.getElem?_cons_zero, List.getElem?_cons_succ, List.set_cons_zero, List.set_cons_succ, asg, asgs, asgN, asgNs, T.names, T.namess, wipeE, frzE, Option.map_some, if_true, if_false, reduceCtorEq, Nat.zero_add, Nat.reduceAdd, Nat.reduceSub, Nat.reduceLT, Nat.reduceLeDiff, E.isNon, D.isI, Bool.false_or, Bool.true_or, Bool.not_true, Bool.not_false, Bool.true_and, Bool.false_and, Bool.and_true, Bool.or_false, Bool.or_true, Bool.false_eq_true, o_add, o_sub, c_eqI, c_neI, c_lt, c_le, c_gt, c_ge, c_is, c_isnot, b_lenL, b_lenT, b_int, b_tupL, b_tupT, b_lstL, b_lstT, i_sL, i_sT, i_eL, i_eT, slT, slLs, sl1, isiD, tyD, at0, at1, at2, emk, hchg, eks]) ?_
    refine seq_if (st1 := rowSt ns s1) (alk_if (v := .lst [.int p, .int d, .int m, .lst ((keysL d p).map tI)]) (by simp only [exs, ex, ev, evs, rb_ok, rb_exc, ro_ok, ro_exc, ob_nx, ob_rt, ob_exc, oo_some, rs_some, an_nx, an_rt, an_exc, bi_some, bi_some', FD.start, List.map_cons, List.map_nil, List.length_cons, List.length_nil, List.cons_append, List.nil_append, List.replicate, List.getElem?_cons_zero, List.getElem?_cons_succ, List.set_cons_zero, List.set_cons_succ, asg, asgs, asgN, asgNs, T.names, T.namess, wipeE, frzE, Option.map_some, if_true, if_false, reduceCtorEq, Nat.zero_add, Nat.reduceAdd, Nat.reduceSub, Nat.reduceLT, Nat.reduceLeDiff, E.isNon, D.isI, Bool.false_or, Bool.true_or, Bool.not_true, Bool.not_false, Bool.true_and, Bool.false_and, Bool.and_true, Bool.or_false, Bool.or_true, Bool.false_eq_true, o_add, o_sub, c_eqI, c_neI, c_lt, c_le, c_gt, c_ge, c_is, c_isnot, b_lenL, b_lenT, b_int, b_tupL, b_tupT, b_lstL, b_lstT, i_sL, i_sT, i_eL, i_eT, slT, slLs, sl1, isiD, tyD, gf0 b0, gf1 b0, gf2 b0, eak]) (by simp only [exs, ex, ev, evs, rb_ok, rb_exc, ro_ok, ro_exc, ob_nx, ob_rt, ob_exc, oo_some, rs_some, an_nx, an_rt, an_exc, bi_some, bi_some', FD.start, List.map_cons, List.map_nil, List.length_cons, List.length_nil, List.cons_append, List.nil_append, List.replicate, List.getElem?_cons_zero, List.getElem?_cons_succ, List.set_cons_zero, List.set_cons_succ, asg, asgs, asgN, asgNs, T.names, T.namess, wipeE, frzE, Option.map_some, if_true, if_false, reduceCtorEq, Nat.zero_add, Nat.reduceAdd, Nat.reduceSub, Nat.reduceLT, Nat.reduceLeDiff, E.isNon, D.isI, Bool.false_or, Bool.true_or, Bool.not_true, Bool.not_false, Bool.true_and, Bool.false_and, Bool.and_true, Bool.or_false, Bool.or_true, Bool.false_eq_true, o_add, o_sub, c_eqI, c_neI, c_lt, c_le, c_gt, c_ge, c_is, c_isnot, b_lenL, b_lenT, b_int, b_tupL, b_tupT, b_lstL, b_lstT, i_sL, i_sT, i_eL, i_eT, slT, slLs, sl1, isiD, tyD, at0, at1, at2]) (s_alike h23 _ _ (al_lst (fun x hx => by
      simp only [List.mem_cons, List.not_mem_nil, or_false] at hx
      rcases hx with rfl | rfl | rfl | rfl
      · rfl
      · rfl
      · rfl
      · exact al_keys klen kl) (by simp)) (by have := depth_keys (ks := keysL d p); simp only [D.depth, D.depths] at this ⊢; omega))) rfl ?_
    refine seq_nx (ρ1 := [.val (.scr ns), .val (.ptr 0), .val (mkT p d m), .val (mkD ix p d m), .val (.lst ((keysL d p).map tI)), .val (tTt l), .val (lT ls), .no, .no, .no, .no, .no, .no, .no, .no]) (st1 := rowSt ns s4) (by
      simp only [exs, ex, ev, evs, rb_ok, rb_exc, ro_ok, ro_exc, ob_nx, ob_rt, ob_exc, oo_some, rs_some, an_nx, an_rt, an_exc, bi_some, bi_some', FD.start, List.map_cons, List.map_nil, List.length_cons, List.length_nil, List.cons_append, List.nil_append, List.replicate, List.getElem?_cons_zero, List.getElem?_cons_succ, List.set_cons_zero, List.set_cons_succ, asg, asgs, asgN, asgNs, T.names, T.namess, wipeE, frzE, Option.map_some, if_true, if_false, reduceCtorEq, Nat.zero_add, Nat.reduceAdd, Nat.reduceSub, Nat.reduceLT, Nat.reduceLeDiff, E.isNon, D.isI, Bool.false_or, Bool.true_or, Bool.not_true, Bool.not_false, Bool.true_and, Bool.false_and, Bool.and_true, Bool.or_false, Bool.or_true, Bool.false_eq_true, o_add, o_sub, c_eqI, c_neI, c_lt, c_le, c_gt, c_ge, c_is, c_isnot, b_lenL, b_lenT, b_int, b_tupL, b_tupT, b_lstL, b_lstT, i_sL, i_sT, i_eL, i_eT, slT, slLs, sl1, isiD, tyD, e2, e3, i_rn (show r5 ≤ 1000000 by omega) (show -1000000 ≤ r5 by omega)] at e4 ⊢
      rw [e4]
      simp only [exs, ex, ev, evs, rb_ok, rb_exc, ro_ok, ro_exc, ob_nx, ob_rt, ob_exc, oo_some, rs_some, an_nx, an_rt, an_exc, bi_some, bi_some', FD.start, List.map_cons, List.map_nil, List.length_cons, List.length_nil, List.cons_append, List.nil_append, List.replicate, List.getElem?_cons_zero, List.getElem?_cons_succ, List.set_cons_zero, List.set_cons_succ, asg, asgs, asgN, asgNs, T.names, T.namess, wipeE, frzE, Option.map_some, if_true, if_false, reduceCtorEq, Nat.zero_add, Nat.reduceAdd, Nat.reduceSub, Nat.reduceLT, Nat.reduceLeDiff, E.isNon, D.isI, Bool.false_or, Bool.true_or, Bool.not_true, Bool.not_false, Bool.true_and, Bool.false_and, Bool.and_true, Bool.or_false, Bool.or_true, Bool.false_eq_true, o_add, o_sub, c_eqI, c_neI, c_lt, c_le, c_gt, c_ge, c_is, c_isnot, b_lenL, b_lenT, b_int, b_tupL, b_tupT, b_lstL, b_lstT, i_sL, i_sT, i_eL, i_eT, slT, slLs, sl1, isiD, tyD, List.length_map, show (ls.length ≤ maxLen) = True from eq_true (Nat.le_trans hl8 (by decide))]) ?_
    -- the keys that open the lock
    have edue : ∀ s, ev pr (callsN pr w (k + 10)) (.comp (.var 9) (.nm 9) .seq [.var 4] (.call (ix.fn 30) [.var 9, .var 5])) [.val (.scr ns), .val (.ptr 0), .val (mkT p d m), .val (mkD ix p d m), .val (.lst ((keysL d p).map tI)), .val (tTt l), .val (lT ls), .no, .no, .no, .no, .no, .no, .no, .no] (rowSt ns s) = .ok (.lst (((keysL d p).filter fun k => fitsB k l).map tI)) (rowSt ns s) := fun s => by
      simp only [exs, ex, ev, evs, rb_ok, rb_exc, ro_ok, ro_exc, ob_nx, ob_rt, ob_exc, oo_some, rs_some, an_nx, an_rt, an_exc, bi_some, bi_some', FD.start, List.map_cons, List.map_nil, List.length_cons, List.length_nil, List.cons_append, List.nil_append, List.replicate, List.getElem?_cons_zero, List.getElem?_cons_succ, List.set_cons_zero, List.set_cons_succ, asg, asgs, asgN, asgNs, T.names, T.namess, wipeE, frzE, Option.map_some, if_true, if_false, reduceCtorEq, Nat.zero_add, Nat.reduceAdd, Nat.reduceSub, Nat.reduceLT, Nat.reduceLeDiff, E.isNon, D.isI, Bool.false_or, Bool.true_or, Bool.not_true, Bool.not_false, Bool.true_and, Bool.false_and, Bool.and_true, Bool.or_false, Bool.or_true, Bool.false_eq_true, o_add, o_sub, c_eqI, c_neI, c_lt, c_le, c_gt, c_ge, c_is, c_isnot, b_lenL, b_lenT, b_int, b_tupL, b_tupT, b_lstL, b_lstT, i_sL, i_sT, i_eL, i_eT, slT, slLs, sl1, isiD, tyD]
      rw [compL_ofF (p := fun k => fitsB k l) (f := tI) fun q hq => by
        simp only [exs, ex, ev, evs, rb_ok, rb_exc, ro_ok, ro_exc, ob_nx, ob_rt, ob_exc, oo_some, rs_some, an_nx, an_rt, an_exc, bi_some, bi_some', FD.start, List.map_cons, List.map_nil, List.length_cons, List.length_nil, List.cons_append, List.nil_append, List.replicate, List.getElem?_cons_zero, List.getElem?_cons_succ, List.set_cons_zero, List.set_cons_succ, asg, asgs, asgN, asgNs, T.names, T.namess, wipeE, frzE, Option.map_some, if_true, if_false, reduceCtorEq, Nat.zero_add, Nat.reduceAdd, Nat.reduceSub, Nat.reduceLT, Nat.reduceLeDiff, E.isNon, D.isI, Bool.false_or, Bool.true_or, Bool.not_true, Bool.not_false, Bool.true_and, Bool.false_and, Bool.and_true, Bool.or_false, Bool.or_true, Bool.false_eq_true, o_add, o_sub, c_eqI, c_neI, c_lt, c_le, c_gt, c_ge, c_is, c_isnot, b_lenL, b_lenT, b_int, b_tupL, b_tupT, b_lstL, b_lstT, i_sL, i_sT, i_eL, i_eT, slT, slLs, sl1, isiD, tyD, s_law_fits h30 (show 1 ≤ k + 10 by omega) hl.2.1 (show q.length = l.length by rw [kk q hq, gl.1])]
        cases fitsB q l <;> simp only [exs, ex, ev, evs, rb_ok, rb_exc, ro_ok, ro_exc, ob_nx, ob_rt, ob_exc, oo_some, rs_some, an_nx, an_rt, an_exc, bi_some, bi_some', FD.start, List.map_cons, List.map_nil, List.length_cons, List.length_nil, List.cons_append, List.nil_append, List.replicate, List.getElem?_cons_zero, List.getElem?_cons_succ, List.set_cons_zero, List.set_cons_succ, asg, asgs, asgN, asgNs, T.names, T.namess, wipeE, frzE, Option.map_some, if_true, if_false, reduceCtorEq, Nat.zero_add, Nat.reduceAdd, Nat.reduceSub, Nat.reduceLT, Nat.reduceLeDiff, E.isNon, D.isI, Bool.false_or, Bool.true_or, Bool.not_true, Bool.not_false, Bool.true_and, Bool.false_and, Bool.and_true, Bool.or_false, Bool.or_true, Bool.false_eq_true, o_add, o_sub, c_eqI, c_neI, c_lt, c_le, c_gt, c_ge, c_is, c_isnot, b_lenL, b_lenT, b_int, b_tupL, b_tupT, b_lstL, b_lstT, i_sL, i_sT, i_eL, i_eT, slT, slLs, sl1, isiD, tyD]]
      simp only [exs, ex, ev, evs, rb_ok, rb_exc, ro_ok, ro_exc, ob_nx, ob_rt, ob_exc, oo_some, rs_some, an_nx, an_rt, an_exc, bi_some, bi_some', FD.start, List.map_cons, List.map_nil, List.length_cons, List.length_nil, List.cons_append, List.nil_append, List.replicate, List.getElem?_cons_zero, List.getElem?_cons_succ, List.set_cons_zero, List.set_cons_succ, asg, asgs, asgN, asgNs, T.names, T.namess, wipeE, frzE, Option.map_some, if_true, if_false, reduceCtorEq, Nat.zero_add, Nat.reduceAdd, Nat.reduceSub, Nat.reduceLT, Nat.reduceLeDiff, E.isNon, D.isI, Bool.false_or, Bool.true_or, Bool.not_true, Bool.not_false, Bool.true_and, Bool.false_and, Bool.and_true, Bool.or_false, Bool.or_true, Bool.false_eq_true, o_add, o_sub, c_eqI, c_neI, c_lt, c_le, c_gt, c_ge, c_is, c_isnot, b_lenL, b_lenT, b_int, b_tupL, b_tupT, b_lstL, b_lstT, i_sL, i_sT, i_eL, i_eT, slT, slLs, sl1, isiD, tyD, List.length_map, show (((keysL d p).filter fun k => fitsB k l).length ≤ maxLen) = True from eq_true (Nat.le_trans (List.length_filter_le _ _) klen)]
    refine seq_nx (ρ1 := [.val (.scr ns), .val (.ptr 0), .val (mkT p d m), .val (mkD ix p d m), .val (.lst ((keysL d p).map tI)), .val (tTt l), .val (lT ls), .no, .val (.lst (((keysL d p).filter fun k => fitsB k l).map tI)), .no, .no, .no, .no, .no, .no]) (st1 := rowSt ns s4) (by
      rw [show ∀ e ρ st, ex pr (callsN pr w (k + 10)) w (.set (.nm 8) e) ρ st = (ev pr (callsN pr w (k + 10)) e ρ st).out fun d st => Out.ofOpt (asg pr (.nm 8) d ρ st) fun q => .nx q.1 q.2 from fun e ρ st => by simp only [ex], edue]
      simp only [exs, ex, ev, evs, rb_ok, rb_exc, ro_ok, ro_exc, ob_nx, ob_rt, ob_exc, oo_some, rs_some, an_nx, an_rt, an_exc, bi_some, bi_some', FD.start, List.map_cons, List.map_nil, List.length_cons, List.length_nil, List.cons_append, List.nil_append, List.replicate, List.getElem?_cons_zero, List.getElem?_cons_succ, List.set_cons_zero, List.set_cons_succ, asg, asgs, asgN, asgNs, T.names, T.namess, wipeE, frzE, Option.map_some, if_true, if_false, reduceCtorEq, Nat.zero_add, Nat.reduceAdd, Nat.reduceSub, Nat.reduceLT, Nat.reduceLeDiff, E.isNon, D.isI, Bool.false_or, Bool.true_or, Bool.not_true, Bool.not_false, Bool.true_and, Bool.false_and, Bool.and_true, Bool.or_false, Bool.or_true, Bool.false_eq_true, o_add, o_sub, c_eqI, c_neI, c_lt, c_le, c_gt, c_ge, c_is, c_isnot, b_lenL, b_lenT, b_int, b_tupL, b_tupT, b_lstL, b_lstT, i_sL, i_sT, i_eL, i_eT, slT, slLs, sl1, isiD, tyD]) ?_
    have hcount : (((keysL d p).filter fun k => fitsB k l).length : Int) = prodB l := count_fits p l gl.1 fun e he => (gl.2 e he).1
    have hshut : (prodB l == 0) = ((((keysL d p).filter fun k => fitsB k l).map tI).isEmpty) := by
      rw [← hcount, List.isEmpty_map]
      cases (keysL d p).filter fun k => fitsB k l with
      | nil => rfl
      | cons a r => simp; omega
    have pdue : D.plains (((keysL d p).filter fun k => fitsB k l).map tI) = true := plains_tI _
    refine seq_if (st1 := rowSt ns s4) (alk_if (v := .lst [.int (prodB l), .bl (prodB l == 0)]) (by simp only [exs, ex, ev, evs, rb_ok, rb_exc, ro_ok, ro_exc, ob_nx, ob_rt, ob_exc, oo_some, rs_some, an_nx, an_rt, an_exc, bi_some, bi_some', FD.start, List.map_cons, List.map_nil, List.length_cons, List.length_nil, List.cons_append, List.nil_append, List.replicate, List.getElem?_cons_zero, List.getElem?_cons_succ, List.set_cons_zero, List.set_cons_succ, asg, asgs, asgN, asgNs, T.names, T.namess, wipeE, frzE, Option.map_some, if_true, if_false, reduceCtorEq, Nat.zero_add, Nat.reduceAdd, Nat.reduceSub, Nat.reduceLT, Nat.reduceLeDiff, E.isNon, D.isI, Bool.false_or, Bool.true_or, Bool.not_true, Bool.not_false, Bool.true_and, Bool.false_and, Bool.and_true, Bool.or_false, Bool.or_true, Bool.false_eq_true, o_add, o_sub, c_eqI, c_neI, c_lt, c_le, c_gt, c_ge, c_is, c_isnot, b_lenL, b_lenT, b_int, b_tupL, b_tupT, b_lstL, b_lstT, i_sL, i_sT, i_eL, i_eT, slT, slLs, sl1, isiD, tyD, s_count_keys b0 b2 b3 (show 6 ≤ k + 10 by omega) hl, s_is_shut b0 b2 b3 h19 (show 7 ≤ k + 10 by omega) hl]) (by simp only [exs, ex, ev, evs, rb_ok, rb_exc, ro_ok, ro_exc, ob_nx, ob_rt, ob_exc, oo_some, rs_some, an_nx, an_rt, an_exc, bi_some, bi_some', FD.start, List.map_cons, List.map_nil, List.length_cons, List.length_nil, List.cons_append, List.nil_append, List.replicate, List.getElem?_cons_zero, List.getElem?_cons_succ, List.set_cons_zero, List.set_cons_succ, asg, asgs, asgN, asgNs, T.names, T.namess, wipeE, frzE, Option.map_some, if_true, if_false, reduceCtorEq, Nat.zero_add, Nat.reduceAdd, Nat.reduceSub, Nat.reduceLT, Nat.reduceLeDiff, E.isNon, D.isI, Bool.false_or, Bool.true_or, Bool.not_true, Bool.not_false, Bool.true_and, Bool.false_and, Bool.and_true, Bool.or_false, Bool.or_true, Bool.false_eq_true, o_add, o_sub, c_eqI, c_neI, c_lt, c_le, c_gt, c_ge, c_is, c_isnot, b_lenL, b_lenT, b_int, b_tupL, b_tupT, b_lstL, b_lstT, i_sL, i_sT, i_eL, i_eT, slT, slLs, sl1, isiD, tyD, c_eqE' pdue, hshut, List.length_map, hcount]) (s_alike h23 _ _ (by simp [D.al, D.als]) (by simp [D.depth, D.depths]))) rfl ?_
    -- each key
    have dl : (((keysL d p).filter fun k => fitsB k l).length) ≤ maxLen := Nat.le_trans (List.length_filter_le _ _) klen
    refine seq_for (fun ρ => ∃ a b, ρ = [.val (.scr ns), .val (.ptr 0), .val (mkT p d m), .val (mkD ix p d m), .val (.lst ((keysL d p).map tI)), .val (tTt l), .val (lT ls), .no, .val (.lst (((keysL d p).filter fun k => fitsB k l).map tI)), a, b, .no, .no, .no, .no]) (ds := [.lst ((keysL d p).map tI)]) (st1 := rowSt ns s4) (by simp only [exs, ex, ev, evs, rb_ok, rb_exc, ro_ok, ro_exc, ob_nx, ob_rt, ob_exc, oo_some, rs_some, an_nx, an_rt, an_exc, bi_some, bi_some', FD.start, List.map_cons, List.map_nil, List.length_cons, List.length_nil, List.cons_append, List.nil_append, List.replicate, List.getElem?_cons_zero, List.getElem?_cons_succ, List.set_cons_zero, List.set_cons_succ, asg, asgs, asgN, asgNs, T.names, T.namess, wipeE, frzE, Option.map_some, if_true, if_false, reduceCtorEq, Nat.zero_add, Nat.reduceAdd, Nat.reduceSub, Nat.reduceLT, Nat.reduceLeDiff, E.isNon, D.isI, Bool.false_or, Bool.true_or, Bool.not_true, Bool.not_false, Bool.true_and, Bool.false_and, Bool.and_true, Bool.or_false, Bool.or_true, Bool.false_eq_true, o_add, o_sub, c_eqI, c_neI, c_lt, c_le, c_gt, c_ge, c_is, c_isnot, b_lenL, b_lenT, b_int, b_tupL, b_tupT, b_lstL, b_lstT, i_sL, i_sT, i_eL, i_eT, slT, slLs, sl1, isiD, tyD]) rfl ⟨_, _, rfl⟩ (by
      rintro x hx ρ ⟨a, b, rfl⟩
      obtain ⟨q, hq, rfl⟩ := List.mem_map.mp hx
      refine ⟨[.val (.scr ns), .val (.ptr 0), .val (mkT p d m), .val (mkD ix p d m), .val (.lst ((keysL d p).map tI)), .val (tTt l), .val (lT ls), .no, .val (.lst (((keysL d p).filter fun k => fitsB k l).map tI)), .val (tI q), b, .no, .no, .no, .no], ?_, _, _, rfl⟩
      rw [show asgN (.nm 9) (tI q) [.val (.scr ns), .val (.ptr 0), .val (mkT p d m), .val (mkD ix p d m), .val (.lst ((keysL d p).map tI)), .val (tTt l), .val (lT ls), .no, .val (.lst (((keysL d p).filter fun k => fitsB k l).map tI)), a, b, .no, .no, .no, .no] = some [.val (.scr ns), .val (.ptr 0), .val (mkT p d m), .val (mkD ix p d m), .val (.lst ((keysL d p).map tI)), .val (tTt l), .val (lT ls), .no, .val (.lst (((keysL d p).filter fun k => fitsB k l).map tI)), .val (tI q), b, .no, .no, .no, .no] from rfl, oo_some]
      have hin : ((keysL d p).filter fun k => fitsB k l).contains q = fitsB q l := by
        rw [Bool.eq_iff_iff, List.contains_iff_mem, List.mem_filter]
        exact ⟨fun h => h.2, fun h => ⟨hq, h⟩⟩
      refine seq_if (st1 := rowSt ns s4) (alk_if (v := .bl (fitsB q l)) (by simp only [exs, ex, ev, evs, rb_ok, rb_exc, ro_ok, ro_exc, ob_nx, ob_rt, ob_exc, oo_some, rs_some, an_nx, an_rt, an_exc, bi_some, bi_some', FD.start, List.map_cons, List.map_nil, List.length_cons, List.length_nil, List.cons_append, List.nil_append, List.replicate, List.getElem?_cons_zero, List.getElem?_cons_succ, List.set_cons_zero, List.set_cons_succ, asg, asgs, asgN, asgNs, T.names, T.namess, wipeE, frzE, Option.map_some, if_true, if_false, reduceCtorEq, Nat.zero_add, Nat.reduceAdd, Nat.reduceSub, Nat.reduceLT, Nat.reduceLeDiff, E.isNon, D.isI, Bool.false_or, Bool.true_or, Bool.not_true, Bool.not_false, Bool.true_and, Bool.false_and, Bool.and_true, Bool.or_false, Bool.or_true, Bool.false_eq_true, o_add, o_sub, c_eqI, c_neI, c_lt, c_le, c_gt, c_ge, c_is, c_isnot, b_lenL, b_lenT, b_int, b_tupL, b_tupT, b_lstL, b_lstT, i_sL, i_sT, i_eL, i_eT, slT, slLs, sl1, isiD, tyD, s_opens b0 b1 b2 b3 h15 (show 6 ≤ k + 10 by omega) (gk q hq) hl]) (by simp only [exs, ex, ev, evs, rb_ok, rb_exc, ro_ok, ro_exc, ob_nx, ob_rt, ob_exc, oo_some, rs_some, an_nx, an_rt, an_exc, bi_some, bi_some', FD.start, List.map_cons, List.map_nil, List.length_cons, List.length_nil, List.cons_append, List.nil_append, List.replicate, List.getElem?_cons_zero, List.getElem?_cons_succ, List.set_cons_zero, List.set_cons_succ, asg, asgs, asgN, asgNs, T.names, T.namess, wipeE, frzE, Option.map_some, if_true, if_false, reduceCtorEq, Nat.zero_add, Nat.reduceAdd, Nat.reduceSub, Nat.reduceLT, Nat.reduceLeDiff, E.isNon, D.isI, Bool.false_or, Bool.true_or, Bool.not_true, Bool.not_false, Bool.true_and, Bool.false_and, Bool.and_true, Bool.or_false, Bool.or_true, Bool.false_eq_true, o_add, o_sub, c_eqI, c_neI, c_lt, c_le, c_gt, c_ge, c_is, c_isnot, b_lenL, b_lenT, b_int, b_tupL, b_tupT, b_lstL, b_lstT, i_sL, i_sT, i_eL, i_eT, slT, slLs, sl1, isiD, tyD, c_inK, hin]) (s_alike h23 _ _ rfl (by simp [D.depth]))) rfl ?_
      refine seq_if (st1 := rowSt ns s4) (alk_if (v := .lst (doorsB q ls)) (by simp only [exs, ex, ev, evs, rb_ok, rb_exc, ro_ok, ro_exc, ob_nx, ob_rt, ob_exc, oo_some, rs_some, an_nx, an_rt, an_exc, bi_some, bi_some', FD.start, List.map_cons, List.map_nil, List.length_cons, List.length_nil, List.cons_append, List.nil_append, List.replicate, List.getElem?_cons_zero, List.getElem?_cons_succ, List.set_cons_zero, List.set_cons_succ, asg, asgs, asgN, asgNs, T.names, T.namess, wipeE, frzE, Option.map_some, if_true, if_false, reduceCtorEq, Nat.zero_add, Nat.reduceAdd, Nat.reduceSub, Nat.reduceLT, Nat.reduceLeDiff, E.isNon, D.isI, Bool.false_or, Bool.true_or, Bool.not_true, Bool.not_false, Bool.true_and, Bool.false_and, Bool.and_true, Bool.or_false, Bool.or_true, Bool.false_eq_true, o_add, o_sub, c_eqI, c_neI, c_lt, c_le, c_gt, c_ge, c_is, c_isnot, b_lenL, b_lenT, b_int, b_tupL, b_tupT, b_lstL, b_lstT, i_sL, i_sT, i_eL, i_eT, slT, slLs, sl1, isiD, tyD, s_doors_of b0 b1 b2 h16 (show 6 ≤ k + 10 by omega) (gk q hq) hl8 hls]) (by
        simp only [exs, ex, ev, evs, rb_ok, rb_exc, ro_ok, ro_exc, ob_nx, ob_rt, ob_exc, oo_some, rs_some, an_nx, an_rt, an_exc, bi_some, bi_some', FD.start, List.map_cons, List.map_nil, List.length_cons, List.length_nil, List.cons_append, List.nil_append, List.replicate, List.getElem?_cons_zero, List.getElem?_cons_succ, List.set_cons_zero, List.set_cons_succ, asg, asgs, asgN, asgNs, T.names, T.namess, wipeE, frzE, Option.map_some, if_true, if_false, reduceCtorEq, Nat.zero_add, Nat.reduceAdd, Nat.reduceSub, Nat.reduceLT, Nat.reduceLeDiff, E.isNon, D.isI, Bool.false_or, Bool.true_or, Bool.not_true, Bool.not_false, Bool.true_and, Bool.false_and, Bool.and_true, Bool.or_false, Bool.or_true, Bool.false_eq_true, o_add, o_sub, c_eqI, c_neI, c_lt, c_le, c_gt, c_ge, c_is, c_isnot, b_lenL, b_lenT, b_int, b_tupL, b_tupT, b_lstL, b_lstT, i_sL, i_sT, i_eL, i_eT, slT, slLs, sl1, isiD, tyD, List.length_map, i_rn (show (ls.length : Int) ≤ 1000000 by omega) (show -1000000 ≤ (ls.length : Int) by omega), Int.toNat_natCast]
        rw [compL_of (f := fun i => if fitsB q (ls.getD i []) then some (D.int (i : Int)) else none) fun i hi => by
          have hi := List.mem_range.mp hi
          have e2 : atD (ls.map tTt) (i : Int) = some (tTt (ls.getD i [])) := by
            rw [at_pos rfl (by simpa using hi)]
            simp [List.getElem?_eq_getElem hi]
          have hli : gLock p d m (ls.getD i []) := by
            have : ls.getD i [] = ls[i] := by simp [List.getElem?_eq_getElem hi]
            rw [this]
            exact hls _ (List.getElem_mem hi)
          simp only [exs, ex, ev, evs, rb_ok, rb_exc, ro_ok, ro_exc, ob_nx, ob_rt, ob_exc, oo_some, rs_some, an_nx, an_rt, an_exc, bi_some, bi_some', FD.start, List.map_cons, List.map_nil, List.length_cons, List.length_nil, List.cons_append, List.nil_append, List.replicate, List.getElem?_cons_zero, List.getElem?_cons_succ, List.set_cons_zero, List.set_cons_succ, asg, asgs, asgN, asgNs, T.names, T.namess, wipeE, frzE, Option.map_some, if_true, if_false, reduceCtorEq, Nat.zero_add, Nat.reduceAdd, Nat.reduceSub, Nat.reduceLT, Nat.reduceLeDiff, E.isNon, D.isI, Bool.false_or, Bool.true_or, Bool.not_true, Bool.not_false, Bool.true_and, Bool.false_and, Bool.and_true, Bool.or_false, Bool.or_true, Bool.false_eq_true, o_add, o_sub, c_eqI, c_neI, c_lt, c_le, c_gt, c_ge, c_is, c_isnot, b_lenL, b_lenT, b_int, b_tupL, b_tupT, b_lstL, b_lstT, i_sL, i_sT, i_eL, i_eT, slT, slLs, sl1, isiD, tyD, e2, s_law_fits h30 (show 1 ≤ k + 10 by omega) hli.2.1 (show q.length = (ls.getD i []).length by rw [kk q hq, (gLock_nodup hli).1])]
          cases fitsB q (ls.getD i []) <;> simp only [exs, ex, ev, evs, rb_ok, rb_exc, ro_ok, ro_exc, ob_nx, ob_rt, ob_exc, oo_some, rs_some, an_nx, an_rt, an_exc, bi_some, bi_some', FD.start, List.map_cons, List.map_nil, List.length_cons, List.length_nil, List.cons_append, List.nil_append, List.replicate, List.getElem?_cons_zero, List.getElem?_cons_succ, List.set_cons_zero, List.set_cons_succ, asg, asgs, asgN, asgNs, T.names, T.namess, wipeE, frzE, Option.map_some, if_true, if_false, reduceCtorEq, Nat.zero_add, Nat.reduceAdd, Nat.reduceSub, Nat.reduceLT, Nat.reduceLeDiff, E.isNon, D.isI, Bool.false_or, Bool.true_or, Bool.not_true, Bool.not_false, Bool.true_and, Bool.false_and, Bool.and_true, Bool.or_false, Bool.or_true, Bool.false_eq_true, o_add, o_sub, c_eqI, c_neI, c_lt, c_le, c_gt, c_ge, c_is, c_isnot, b_lenL, b_lenT, b_int, b_tupL, b_tupT, b_lstL, b_lstT, i_sL, i_sT, i_eL, i_eT, slT, slLs, sl1, isiD, tyD]]
        rw [doors_range]
        have hz : (doorsB q ls).length ≤ maxLen := by
          refine Nat.le_trans (List.length_filterMap_le _ _) ?_
          rw [List.length_zipIdx]
          exact Nat.le_trans hl8 (by decide)
        simp only [exs, ex, ev, evs, rb_ok, rb_exc, ro_ok, ro_exc, ob_nx, ob_rt, ob_exc, oo_some, rs_some, an_nx, an_rt, an_exc, bi_some, bi_some', FD.start, List.map_cons, List.map_nil, List.length_cons, List.length_nil, List.cons_append, List.nil_append, List.replicate, List.getElem?_cons_zero, List.getElem?_cons_succ, List.set_cons_zero, List.set_cons_succ, asg, asgs, asgN, asgNs, T.names, T.namess, wipeE, frzE, Option.map_some, if_true, if_false, reduceCtorEq, Nat.zero_add, Nat.reduceAdd, Nat.reduceSub, Nat.reduceLT, Nat.reduceLeDiff, E.isNon, D.isI, Bool.false_or, Bool.true_or, Bool.not_true, Bool.not_false, Bool.true_and, Bool.false_and, Bool.and_true, Bool.or_false, Bool.or_true, Bool.false_eq_true, o_add, o_sub, c_eqI, c_neI, c_lt, c_le, c_gt, c_ge, c_is, c_isnot, b_lenL, b_lenT, b_int, b_tupL, b_tupT, b_lstL, b_lstT, i_sL, i_sT, i_eL, i_eT, slT, slLs, sl1, isiD, tyD, hz]) (s_alike h23 _ _ (al_lst (fun x hx => by
          obtain ⟨t, _, ht⟩ := List.mem_filterMap.mp hx
          split at ht
          · cases ht; rfl
          · cases ht) (by
          refine Nat.le_trans (List.length_filterMap_le _ _) ?_
          rw [List.length_zipIdx]
          omega)) (by
          have : D.depths (doorsB q ls) = 0 := by
            unfold doorsB
            have : ∀ (l : List D), (∀ d ∈ l, ∃ i, d = .int i) → D.depths l = 0 := fun l => by
              induction l with
              | nil => exact fun _ => rfl
              | cons a r ih =>
                intro h
                obtain ⟨i, rfl⟩ := h a List.mem_cons_self
                simp only [D.depths, D.depth, ih fun d hd => h d (List.mem_cons_of_mem _ hd), Nat.max_self]
            apply this
            intro x hx
            obtain ⟨t, _, ht⟩ := List.mem_filterMap.mp hx
            split at ht
            · cases ht; exact ⟨_, rfl⟩
            · cases ht
          simp only [D.depth, this]
          omega))) rfl rfl) (fun ρ' ⟨a, b, hρ⟩ => ?_)
    subst hρ
    -- some keys
    have hks64 : ks.length < 64 := by omega
    have hksm : ks.length ≤ maxLen := Nat.le_trans (Nat.le_of_lt hks64) (by decide)
    refine seq_nx (ρ1 := [.val (.scr ns), .val (.ptr 0), .val (mkT p d m), .val (mkD ix p d m), .val (.lst ((keysL d p).map tI)), .val (tTt l), .val (lT ls), .no, .val (.lst (((keysL d p).filter fun k => fitsB k l).map tI)), a, b, .val (.lst (ks.map tI)), .no, .no, .no]) (st1 := rowSt ns s6) (by
      simp only [exs, ex, ev, evs, rb_ok, rb_exc, ro_ok, ro_exc, ob_nx, ob_rt, ob_exc, oo_some, rs_some, an_nx, an_rt, an_exc, bi_some, bi_some', FD.start, List.map_cons, List.map_nil, List.length_cons, List.length_nil, List.cons_append, List.nil_append, List.replicate, List.getElem?_cons_zero, List.getElem?_cons_succ, List.set_cons_zero, List.set_cons_succ, asg, asgs, asgN, asgNs, T.names, T.namess, wipeE, frzE, Option.map_some, if_true, if_false, reduceCtorEq, Nat.zero_add, Nat.reduceAdd, Nat.reduceSub, Nat.reduceLT, Nat.reduceLeDiff, E.isNon, D.isI, Bool.false_or, Bool.true_or, Bool.not_true, Bool.not_false, Bool.true_and, Bool.false_and, Bool.and_true, Bool.or_false, Bool.or_true, Bool.false_eq_true, o_add, o_sub, c_eqI, c_neI, c_lt, c_le, c_gt, c_ge, c_is, c_isnot, b_lenL, b_lenT, b_int, b_tupL, b_tupT, b_lstL, b_lstT, i_sL, i_sT, i_eL, i_eT, slT, slLs, sl1, isiD, tyD, e5, i_rn (show r6 ≤ 1000000 by omega) (show -1000000 ≤ r6 by omega)]
      rw [e6]
      simp only [exs, ex, ev, evs, rb_ok, rb_exc, ro_ok, ro_exc, ob_nx, ob_rt, ob_exc, oo_some, rs_some, an_nx, an_rt, an_exc, bi_some, bi_some', FD.start, List.map_cons, List.map_nil, List.length_cons, List.length_nil, List.cons_append, List.nil_append, List.replicate, List.getElem?_cons_zero, List.getElem?_cons_succ, List.set_cons_zero, List.set_cons_succ, asg, asgs, asgN, asgNs, T.names, T.namess, wipeE, frzE, Option.map_some, if_true, if_false, reduceCtorEq, Nat.zero_add, Nat.reduceAdd, Nat.reduceSub, Nat.reduceLT, Nat.reduceLeDiff, E.isNon, D.isI, Bool.false_or, Bool.true_or, Bool.not_true, Bool.not_false, Bool.true_and, Bool.false_and, Bool.and_true, Bool.or_false, Bool.or_true, Bool.false_eq_true, o_add, o_sub, c_eqI, c_neI, c_lt, c_le, c_gt, c_ge, c_is, c_isnot, b_lenL, b_lenT, b_int, b_tupL, b_tupT, b_lstL, b_lstT, i_sL, i_sT, i_eL, i_eT, slT, slLs, sl1, isiD, tyD, List.length_map, hksm]) ?_
    refine seq_nx (ρ1 := [.val (.scr ns), .val (.ptr 0), .val (mkT p d m), .val (mkD ix p d m), .val (.lst ((keysL d p).map tI)), .val (tTt l), .val (lT ls), .no, .val (.lst (((keysL d p).filter fun k => fitsB k l).map tI)), a, b, .val (.lst (ks.map tI)), .val (tTt (leastB p ks)), .no, .no]) (st1 := rowSt ns s6) (by
      simp only [exs, ex, ev, evs, rb_ok, rb_exc, ro_ok, ro_exc, ob_nx, ob_rt, ob_exc, oo_some, rs_some, an_nx, an_rt, an_exc, bi_some, bi_some', FD.start, List.map_cons, List.map_nil, List.length_cons, List.length_nil, List.cons_append, List.nil_append, List.replicate, List.getElem?_cons_zero, List.getElem?_cons_succ, List.set_cons_zero, List.set_cons_succ, asg, asgs, asgN, asgNs, T.names, T.namess, wipeE, frzE, Option.map_some, if_true, if_false, reduceCtorEq, Nat.zero_add, Nat.reduceAdd, Nat.reduceSub, Nat.reduceLT, Nat.reduceLeDiff, E.isNon, D.isI, Bool.false_or, Bool.true_or, Bool.not_true, Bool.not_false, Bool.true_and, Bool.false_and, Bool.and_true, Bool.or_false, Bool.or_true, Bool.false_eq_true, o_add, o_sub, c_eqI, c_neI, c_lt, c_le, c_gt, c_ge, c_is, c_isnot, b_lenL, b_lenT, b_int, b_tupL, b_tupT, b_lstL, b_lstT, i_sL, i_sT, i_eL, i_eT, slT, slLs, sl1, isiD, tyD, s_least_lock b0 b1 h18 (show 5 ≤ k + 10 by omega) (show p ≤ 1000000 by omega) (fun k hk => ⟨gk k (hks k hk), kk k (hks k hk)⟩) hks64]) ?_
    have lb := leastB_len (p := p) (ks := ks)
    have l1 : (leastB p ks).length ≤ 1000000 := by rw [lb.1]; omega
    have l2 : ∀ e ∈ leastB p ks, e.length ≤ 1000000 := fun e he => by have := lb.2 e he; omega
    obtain ⟨o1, o2, o3⟩ := okThing_ok (ok_tT l1 l2)
    refine seq_if (st1 := rowSt ns s6) (or_ff (st1 := rowSt ns s6) (alk_if (v := tTt (leastB p ks)) (by simp only [exs, ex, ev, evs, rb_ok, rb_exc, ro_ok, ro_exc, ob_nx, ob_rt, ob_exc, oo_some, rs_some, an_nx, an_rt, an_exc, bi_some, bi_some', FD.start, List.map_cons, List.map_nil, List.length_cons, List.length_nil, List.cons_append, List.nil_append, List.replicate, List.getElem?_cons_zero, List.getElem?_cons_succ, List.set_cons_zero, List.set_cons_succ, asg, asgs, asgN, asgNs, T.names, T.namess, wipeE, frzE, Option.map_some, if_true, if_false, reduceCtorEq, Nat.zero_add, Nat.reduceAdd, Nat.reduceSub, Nat.reduceLT, Nat.reduceLeDiff, E.isNon, D.isI, Bool.false_or, Bool.true_or, Bool.not_true, Bool.not_false, Bool.true_and, Bool.false_and, Bool.and_true, Bool.or_false, Bool.or_true, Bool.false_eq_true, o_add, o_sub, c_eqI, c_neI, c_lt, c_le, c_gt, c_ge, c_is, c_isnot, b_lenL, b_lenT, b_int, b_tupL, b_tupT, b_lstL, b_lstT, i_sL, i_sT, i_eL, i_eT, slT, slLs, sl1, isiD, tyD]) (by simp only [exs, ex, ev, evs, rb_ok, rb_exc, ro_ok, ro_exc, ob_nx, ob_rt, ob_exc, oo_some, rs_some, an_nx, an_rt, an_exc, bi_some, bi_some', FD.start, List.map_cons, List.map_nil, List.length_cons, List.length_nil, List.cons_append, List.nil_append, List.replicate, List.getElem?_cons_zero, List.getElem?_cons_succ, List.set_cons_zero, List.set_cons_succ, asg, asgs, asgN, asgNs, T.names, T.namess, wipeE, frzE, Option.map_some, if_true, if_false, reduceCtorEq, Nat.zero_add, Nat.reduceAdd, Nat.reduceSub, Nat.reduceLT, Nat.reduceLeDiff, E.isNon, D.isI, Bool.false_or, Bool.true_or, Bool.not_true, Bool.not_false, Bool.true_and, Bool.false_and, Bool.and_true, Bool.or_false, Bool.or_true, Bool.false_eq_true, o_add, o_sub, c_eqI, c_neI, c_lt, c_le, c_gt, c_ge, c_is, c_isnot, b_lenL, b_lenT, b_int, b_tupL, b_tupT, b_lstL, b_lstT, i_sL, i_sT, i_eL, i_eT, slT, slLs, sl1, isiD, tyD, s_law_least h24 (show pr.defs (ix.fn 29) = some (d__law_least ix) from rfl) (show 2 ≤ k + 10 by omega) (show p ≤ 1000000 by omega) (fun k hk => kk k (hks k hk)) (show ks.length ≤ 1000000 by omega)]) (s_alike h23 _ _ (al_tT l1 l2) (by have := depth_tT (l := leastB p ks); omega)))
      (alk_if (v := .bl (lockB p d m (tTt (leastB p ks)))) (by simp only [exs, ex, ev, evs, rb_ok, rb_exc, ro_ok, ro_exc, ob_nx, ob_rt, ob_exc, oo_some, rs_some, an_nx, an_rt, an_exc, bi_some, bi_some', FD.start, List.map_cons, List.map_nil, List.length_cons, List.length_nil, List.cons_append, List.nil_append, List.replicate, List.getElem?_cons_zero, List.getElem?_cons_succ, List.set_cons_zero, List.set_cons_succ, asg, asgs, asgN, asgNs, T.names, T.namess, wipeE, frzE, Option.map_some, if_true, if_false, reduceCtorEq, Nat.zero_add, Nat.reduceAdd, Nat.reduceSub, Nat.reduceLT, Nat.reduceLeDiff, E.isNon, D.isI, Bool.false_or, Bool.true_or, Bool.not_true, Bool.not_false, Bool.true_and, Bool.false_and, Bool.and_true, Bool.or_false, Bool.or_true, Bool.false_eq_true, o_add, o_sub, c_eqI, c_neI, c_lt, c_le, c_gt, c_ge, c_is, c_isnot, b_lenL, b_lenT, b_int, b_tupL, b_tupT, b_lstL, b_lstT, i_sL, i_sT, i_eL, i_eT, slT, slLs, sl1, isiD, tyD, s_is_lock b0 b2 (show 4 ≤ k + 10 by omega) o1 o2 o3]) (by simp only [exs, ex, ev, evs, rb_ok, rb_exc, ro_ok, ro_exc, ob_nx, ob_rt, ob_exc, oo_some, rs_some, an_nx, an_rt, an_exc, bi_some, bi_some', FD.start, List.map_cons, List.map_nil, List.length_cons, List.length_nil, List.cons_append, List.nil_append, List.replicate, List.getElem?_cons_zero, List.getElem?_cons_succ, List.set_cons_zero, List.set_cons_succ, asg, asgs, asgN, asgNs, T.names, T.namess, wipeE, frzE, Option.map_some, if_true, if_false, reduceCtorEq, Nat.zero_add, Nat.reduceAdd, Nat.reduceSub, Nat.reduceLT, Nat.reduceLeDiff, E.isNon, D.isI, Bool.false_or, Bool.true_or, Bool.not_true, Bool.not_false, Bool.true_and, Bool.false_and, Bool.and_true, Bool.or_false, Bool.or_true, Bool.false_eq_true, o_add, o_sub, c_eqI, c_neI, c_lt, c_le, c_gt, c_ge, c_is, c_isnot, b_lenL, b_lenT, b_int, b_tupL, b_tupT, b_lstL, b_lstT, i_sL, i_sT, i_eL, i_eT, slT, slLs, sl1, isiD, tyD, s_good_lock h24 h26 h33 (show 2 ≤ k + 10 by omega) o1 plain_tT o2 o3]) (s_alike h23 _ _ rfl (by simp [D.depth])))) rfl ?_
    -- the other locks
    refine seq_for (fun ρ => ∃ a c, ρ = [.val (.scr ns), .val (.ptr 0), .val (mkT p d m), .val (mkD ix p d m), .val (.lst ((keysL d p).map tI)), .val (tTt l), .val (lT ls), .no, .val (.lst (((keysL d p).filter fun k => fitsB k l).map tI)), a, b, .val (.lst (ks.map tI)), .val (tTt (leastB p ks)), c, .no]) (ds := [lT ls]) (st1 := rowSt ns s6) (by simp only [exs, ex, ev, evs, rb_ok, rb_exc, ro_ok, ro_exc, ob_nx, ob_rt, ob_exc, oo_some, rs_some, an_nx, an_rt, an_exc, bi_some, bi_some', FD.start, List.map_cons, List.map_nil, List.length_cons, List.length_nil, List.cons_append, List.nil_append, List.replicate, List.getElem?_cons_zero, List.getElem?_cons_succ, List.set_cons_zero, List.set_cons_succ, asg, asgs, asgN, asgNs, T.names, T.namess, wipeE, frzE, Option.map_some, if_true, if_false, reduceCtorEq, Nat.zero_add, Nat.reduceAdd, Nat.reduceSub, Nat.reduceLT, Nat.reduceLeDiff, E.isNon, D.isI, Bool.false_or, Bool.true_or, Bool.not_true, Bool.not_false, Bool.true_and, Bool.false_and, Bool.and_true, Bool.or_false, Bool.or_true, Bool.false_eq_true, o_add, o_sub, c_eqI, c_neI, c_lt, c_le, c_gt, c_ge, c_is, c_isnot, b_lenL, b_lenT, b_int, b_tupL, b_tupT, b_lstL, b_lstT, i_sL, i_sT, i_eL, i_eT, slT, slLs, sl1, isiD, tyD]) rfl ⟨_, _, rfl⟩ (by
      rintro x hx ρ ⟨a, c, rfl⟩
      obtain ⟨o, ho, rfl⟩ := List.mem_map.mp hx
      refine ⟨[.val (.scr ns), .val (.ptr 0), .val (mkT p d m), .val (mkD ix p d m), .val (.lst ((keysL d p).map tI)), .val (tTt l), .val (lT ls), .no, .val (.lst (((keysL d p).filter fun k => fitsB k l).map tI)), a, b, .val (.lst (ks.map tI)), .val (tTt (leastB p ks)), .val (tTt o), .no], ?_, _, _, rfl⟩
      rw [show asgN (.nm 13) (tTt o) ([.val (.scr ns), .val (.ptr 0), .val (mkT p d m), .val (mkD ix p d m), .val (.lst ((keysL d p).map tI)), .val (tTt l), .val (lT ls), .no, .val (.lst (((keysL d p).filter fun k => fitsB k l).map tI)), a, b, .val (.lst (ks.map tI)), .val (tTt (leastB p ks)), c, .no]) = some ([.val (.scr ns), .val (.ptr 0), .val (mkT p d m), .val (mkD ix p d m), .val (.lst ((keysL d p).map tI)), .val (tTt l), .val (lT ls), .no, .val (.lst (((keysL d p).filter fun k => fitsB k l).map tI)), a, b, .val (.lst (ks.map tI)), .val (tTt (leastB p ks)), .val (tTt o), .no]) from rfl, oo_some]
      have hff : ((keysL d p).filter fun k => fitsB k l).filter (fun k => fitsB k o) = (keysL d p).filter fun k => fitsB k l && fitsB k o := by
        rw [List.filter_filter]
        congr 1
        funext k
        exact Bool.and_comm _ _
      refine seq_if (st1 := rowSt ns s6) (alk_if (v := .lst (((keysL d p).filter fun k => fitsB k l && fitsB k o).map tI)) (by simp only [exs, ex, ev, evs, rb_ok, rb_exc, ro_ok, ro_exc, ob_nx, ob_rt, ob_exc, oo_some, rs_some, an_nx, an_rt, an_exc, bi_some, bi_some', FD.start, List.map_cons, List.map_nil, List.length_cons, List.length_nil, List.cons_append, List.nil_append, List.replicate, List.getElem?_cons_zero, List.getElem?_cons_succ, List.set_cons_zero, List.set_cons_succ, asg, asgs, asgN, asgNs, T.names, T.namess, wipeE, frzE, Option.map_some, if_true, if_false, reduceCtorEq, Nat.zero_add, Nat.reduceAdd, Nat.reduceSub, Nat.reduceLT, Nat.reduceLeDiff, E.isNon, D.isI, Bool.false_or, Bool.true_or, Bool.not_true, Bool.not_false, Bool.true_and, Bool.false_and, Bool.and_true, Bool.or_false, Bool.or_true, Bool.false_eq_true, o_add, o_sub, c_eqI, c_neI, c_lt, c_le, c_gt, c_ge, c_is, c_isnot, b_lenL, b_lenT, b_int, b_tupL, b_tupT, b_lstL, b_lstT, i_sL, i_sT, i_eL, i_eT, slT, slLs, sl1, isiD, tyD, s_common_keys b0 b1 b2 b3 h20 (show 6 ≤ k + 10 by omega) (show d ≤ 10 by omega) (show p ≤ 10 by omega) kb kl hl (hls o ho)]) (by
        simp only [exs, ex, ev, evs, rb_ok, rb_exc, ro_ok, ro_exc, ob_nx, ob_rt, ob_exc, oo_some, rs_some, an_nx, an_rt, an_exc, bi_some, bi_some', FD.start, List.map_cons, List.map_nil, List.length_cons, List.length_nil, List.cons_append, List.nil_append, List.replicate, List.getElem?_cons_zero, List.getElem?_cons_succ, List.set_cons_zero, List.set_cons_succ, asg, asgs, asgN, asgNs, T.names, T.namess, wipeE, frzE, Option.map_some, if_true, if_false, reduceCtorEq, Nat.zero_add, Nat.reduceAdd, Nat.reduceSub, Nat.reduceLT, Nat.reduceLeDiff, E.isNon, D.isI, Bool.false_or, Bool.true_or, Bool.not_true, Bool.not_false, Bool.true_and, Bool.false_and, Bool.and_true, Bool.or_false, Bool.or_true, Bool.false_eq_true, o_add, o_sub, c_eqI, c_neI, c_lt, c_le, c_gt, c_ge, c_is, c_isnot, b_lenL, b_lenT, b_int, b_tupL, b_tupT, b_lstL, b_lstT, i_sL, i_sT, i_eL, i_eT, slT, slLs, sl1, isiD, tyD]
        rw [compL_ofF (p := fun k => fitsB k o) (f := tI) fun q hq => by
          have hq' := (List.mem_filter.mp hq).1
          simp only [exs, ex, ev, evs, rb_ok, rb_exc, ro_ok, ro_exc, ob_nx, ob_rt, ob_exc, oo_some, rs_some, an_nx, an_rt, an_exc, bi_some, bi_some', FD.start, List.map_cons, List.map_nil, List.length_cons, List.length_nil, List.cons_append, List.nil_append, List.replicate, List.getElem?_cons_zero, List.getElem?_cons_succ, List.set_cons_zero, List.set_cons_succ, asg, asgs, asgN, asgNs, T.names, T.namess, wipeE, frzE, Option.map_some, if_true, if_false, reduceCtorEq, Nat.zero_add, Nat.reduceAdd, Nat.reduceSub, Nat.reduceLT, Nat.reduceLeDiff, E.isNon, D.isI, Bool.false_or, Bool.true_or, Bool.not_true, Bool.not_false, Bool.true_and, Bool.false_and, Bool.and_true, Bool.or_false, Bool.or_true, Bool.false_eq_true, o_add, o_sub, c_eqI, c_neI, c_lt, c_le, c_gt, c_ge, c_is, c_isnot, b_lenL, b_lenT, b_int, b_tupL, b_tupT, b_lstL, b_lstT, i_sL, i_sT, i_eL, i_eT, slT, slLs, sl1, isiD, tyD, s_law_fits h30 (show 1 ≤ k + 10 by omega) (hls o ho).2.1 (show q.length = o.length by rw [kk q hq', (gLock_nodup (hls o ho)).1])]
          cases fitsB q o <;> simp only [exs, ex, ev, evs, rb_ok, rb_exc, ro_ok, ro_exc, ob_nx, ob_rt, ob_exc, oo_some, rs_some, an_nx, an_rt, an_exc, bi_some, bi_some', FD.start, List.map_cons, List.map_nil, List.length_cons, List.length_nil, List.cons_append, List.nil_append, List.replicate, List.getElem?_cons_zero, List.getElem?_cons_succ, List.set_cons_zero, List.set_cons_succ, asg, asgs, asgN, asgNs, T.names, T.namess, wipeE, frzE, Option.map_some, if_true, if_false, reduceCtorEq, Nat.zero_add, Nat.reduceAdd, Nat.reduceSub, Nat.reduceLT, Nat.reduceLeDiff, E.isNon, D.isI, Bool.false_or, Bool.true_or, Bool.not_true, Bool.not_false, Bool.true_and, Bool.false_and, Bool.and_true, Bool.or_false, Bool.or_true, Bool.false_eq_true, o_add, o_sub, c_eqI, c_neI, c_lt, c_le, c_gt, c_ge, c_is, c_isnot, b_lenL, b_lenT, b_int, b_tupL, b_tupT, b_lstL, b_lstT, i_sL, i_sT, i_eL, i_eT, slT, slLs, sl1, isiD, tyD]]
        rw [hff]
        have hz : ((keysL d p).filter fun k => fitsB k l && fitsB k o).length ≤ maxLen := Nat.le_trans (List.length_filter_le _ _) klen
        simp only [exs, ex, ev, evs, rb_ok, rb_exc, ro_ok, ro_exc, ob_nx, ob_rt, ob_exc, oo_some, rs_some, an_nx, an_rt, an_exc, bi_some, bi_some', FD.start, List.map_cons, List.map_nil, List.length_cons, List.length_nil, List.cons_append, List.nil_append, List.replicate, List.getElem?_cons_zero, List.getElem?_cons_succ, List.set_cons_zero, List.set_cons_succ, asg, asgs, asgN, asgNs, T.names, T.namess, wipeE, frzE, Option.map_some, if_true, if_false, reduceCtorEq, Nat.zero_add, Nat.reduceAdd, Nat.reduceSub, Nat.reduceLT, Nat.reduceLeDiff, E.isNon, D.isI, Bool.false_or, Bool.true_or, Bool.not_true, Bool.not_false, Bool.true_and, Bool.false_and, Bool.and_true, Bool.or_false, Bool.or_true, Bool.false_eq_true, o_add, o_sub, c_eqI, c_neI, c_lt, c_le, c_gt, c_ge, c_is, c_isnot, b_lenL, b_lenT, b_int, b_tupL, b_tupT, b_lstL, b_lstT, i_sL, i_sT, i_eL, i_eT, slT, slLs, sl1, isiD, tyD, List.length_map, hz]) (s_alike h23 _ _ (al_keys (Nat.le_trans (List.length_filter_le _ _) klen) (fun q hq => kl q (List.mem_filter.mp hq).1)) (by have := depth_keys (ks := (keysL d p).filter fun k => fitsB k l && fitsB k o); omega))) rfl rfl) (fun ρ' ⟨a, c, hρ⟩ => ?_)
    subst hρ
    -- is it a lock
    have mulT : ∀ x : D, opB .mul (.tup [x]) (.int (p : Int)) = some (repD x p) := fun x => by
      rw [o_mulT (by simp) (by omega) (by omega) (by simp)]
      simp [repD]
    have hdrop : (l.map tI).drop 1 = (l.drop 1).map tI := List.map_drop.symm
    have hp3 : p ∈ ([1, 2, 3] : List Nat) := by simp; omega
    have addL : opB .add (tTt l) (tTt l) = some (tTt (l ++ l)) := by
      have := gl.1
      rw [o_addT (by simp; omega)]
      simp
    have le1 : ∀ e ∈ l, e.length ≤ 1000000 := hl.2.2
    have things : ∀ x ∈ ([tTt l, .lst (l.map tI), tTt (l.drop 1), tTt (l ++ l), repD (.tup [.int 1, .int 0]) p, repD (.tup [.int 0, .int 0]) p, repD (.tup [.int 0, .non]) p, repD (.tup [.int (-1)]) p] : List D), okThing x = true ∧ x.plain = true := fun x hx => by
      have rp := fun y hy => List.all_eq_true.mp (List.all_eq_true.mp reps_ok p hp3) y hy
      simp only [Bool.and_eq_true] at rp
      have := gl.1
      simp only [List.mem_cons, List.not_mem_nil, or_false] at hx
      rcases hx with rfl | rfl | rfl | rfl | rfl | rfl | rfl | rfl
      · exact ⟨ok_tT hl.2.1 le1, plain_tT⟩
      · exact ⟨ok_tT (l := l) hl.2.1 le1, plain_tT (l := l)⟩
      · exact ⟨ok_tT (by simp; omega) (fun e he => le1 e (List.mem_of_mem_drop he)), plain_tT⟩
      · exact ⟨ok_tT (by simp; omega) (fun e he => (List.mem_append.mp he).elim (le1 e) (le1 e)), plain_tT⟩
      · exact rp _ (by simp)
      · exact rp _ (by simp)
      · exact rp _ (by simp)
      · exact rp _ (by simp)
    refine seq_for (fun ρ => ∃ t, ρ = [.val (.scr ns), .val (.ptr 0), .val (mkT p d m), .val (mkD ix p d m), .val (.lst ((keysL d p).map tI)), .val (tTt l), .val (lT ls), .no, .val (.lst (((keysL d p).filter fun k => fitsB k l).map tI)), a, b, .val (.lst (ks.map tI)), .val (tTt (leastB p ks)), c, t]) (ds := [.lst [tTt l, .lst (l.map tI), tTt (l.drop 1), tTt (l ++ l), repD (.tup [.int 1, .int 0]) p, repD (.tup [.int 0, .int 0]) p, repD (.tup [.int 0, .non]) p, repD (.tup [.int (-1)]) p]]) (st1 := rowSt ns s6) (by simp only [exs, ex, ev, evs, rb_ok, rb_exc, ro_ok, ro_exc, ob_nx, ob_rt, ob_exc, oo_some, rs_some, an_nx, an_rt, an_exc, bi_some, bi_some', FD.start, List.map_cons, List.map_nil, List.length_cons, List.length_nil, List.cons_append, List.nil_append, List.replicate, List.getElem?_cons_zero, List.getElem?_cons_succ, List.set_cons_zero, List.set_cons_succ, asg, asgs, asgN, asgNs, T.names, T.namess, wipeE, frzE, Option.map_some, if_true, if_false, reduceCtorEq, Nat.zero_add, Nat.reduceAdd, Nat.reduceSub, Nat.reduceLT, Nat.reduceLeDiff, E.isNon, D.isI, Bool.false_or, Bool.true_or, Bool.not_true, Bool.not_false, Bool.true_and, Bool.false_and, Bool.and_true, Bool.or_false, Bool.or_true, Bool.false_eq_true, o_add, o_sub, c_eqI, c_neI, c_lt, c_le, c_gt, c_ge, c_is, c_isnot, b_lenL, b_lenT, b_int, b_tupL, b_tupT, b_lstL, b_lstT, i_sL, i_sT, i_eL, i_eT, slT, slLs, sl1, isiD, tyD, at0, mulT, addL, hdrop]) rfl ⟨_, rfl⟩ (by
      rintro x hx ρ ⟨t, rfl⟩
      refine ⟨[.val (.scr ns), .val (.ptr 0), .val (mkT p d m), .val (mkD ix p d m), .val (.lst ((keysL d p).map tI)), .val (tTt l), .val (lT ls), .no, .val (.lst (((keysL d p).filter fun k => fitsB k l).map tI)), a, b, .val (.lst (ks.map tI)), .val (tTt (leastB p ks)), c, .val x], ?_, _, rfl⟩
      rw [show asgN (.nm 14) x ([.val (.scr ns), .val (.ptr 0), .val (mkT p d m), .val (mkD ix p d m), .val (.lst ((keysL d p).map tI)), .val (tTt l), .val (lT ls), .no, .val (.lst (((keysL d p).filter fun k => fitsB k l).map tI)), a, b, .val (.lst (ks.map tI)), .val (tTt (leastB p ks)), c, t]) = some ([.val (.scr ns), .val (.ptr 0), .val (mkT p d m), .val (mkD ix p d m), .val (.lst ((keysL d p).map tI)), .val (tTt l), .val (lT ls), .no, .val (.lst (((keysL d p).filter fun k => fitsB k l).map tI)), a, b, .val (.lst (ks.map tI)), .val (tTt (leastB p ks)), c, .val x]) from rfl, oo_some]
      obtain ⟨t1, t2⟩ := things x hx
      obtain ⟨t3, t4, t5⟩ := okThing_ok t1
      refine seq_if (st1 := rowSt ns s6) (alk_if (v := .bl (lockB p d m x)) (by simp only [exs, ex, ev, evs, rb_ok, rb_exc, ro_ok, ro_exc, ob_nx, ob_rt, ob_exc, oo_some, rs_some, an_nx, an_rt, an_exc, bi_some, bi_some', FD.start, List.map_cons, List.map_nil, List.length_cons, List.length_nil, List.cons_append, List.nil_append, List.replicate, List.getElem?_cons_zero, List.getElem?_cons_succ, List.set_cons_zero, List.set_cons_succ, asg, asgs, asgN, asgNs, T.names, T.namess, wipeE, frzE, Option.map_some, if_true, if_false, reduceCtorEq, Nat.zero_add, Nat.reduceAdd, Nat.reduceSub, Nat.reduceLT, Nat.reduceLeDiff, E.isNon, D.isI, Bool.false_or, Bool.true_or, Bool.not_true, Bool.not_false, Bool.true_and, Bool.false_and, Bool.and_true, Bool.or_false, Bool.or_true, Bool.false_eq_true, o_add, o_sub, c_eqI, c_neI, c_lt, c_le, c_gt, c_ge, c_is, c_isnot, b_lenL, b_lenT, b_int, b_tupL, b_tupT, b_lstL, b_lstT, i_sL, i_sT, i_eL, i_eT, slT, slLs, sl1, isiD, tyD, s_is_lock b0 b2 (show 4 ≤ k + 10 by omega) t3 t4 t5]) (by simp only [exs, ex, ev, evs, rb_ok, rb_exc, ro_ok, ro_exc, ob_nx, ob_rt, ob_exc, oo_some, rs_some, an_nx, an_rt, an_exc, bi_some, bi_some', FD.start, List.map_cons, List.map_nil, List.length_cons, List.length_nil, List.cons_append, List.nil_append, List.replicate, List.getElem?_cons_zero, List.getElem?_cons_succ, List.set_cons_zero, List.set_cons_succ, asg, asgs, asgN, asgNs, T.names, T.namess, wipeE, frzE, Option.map_some, if_true, if_false, reduceCtorEq, Nat.zero_add, Nat.reduceAdd, Nat.reduceSub, Nat.reduceLT, Nat.reduceLeDiff, E.isNon, D.isI, Bool.false_or, Bool.true_or, Bool.not_true, Bool.not_false, Bool.true_and, Bool.false_and, Bool.and_true, Bool.or_false, Bool.or_true, Bool.false_eq_true, o_add, o_sub, c_eqI, c_neI, c_lt, c_le, c_gt, c_ge, c_is, c_isnot, b_lenL, b_lenT, b_int, b_tupL, b_tupT, b_lstL, b_lstT, i_sL, i_sT, i_eL, i_eT, slT, slLs, sl1, isiD, tyD, s_good_lock h24 h26 h33 (show 2 ≤ k + 10 by omega) t3 t2 t4 t5]) (s_alike h23 _ _ rfl (by simp [D.depth]))) rfl rfl) (fun ρ' ⟨t, hρ⟩ => ?_)
    subst hρ
    -- is it a key
    obtain ⟨k0, hk0, hat0⟩ : ∃ k0, k0 ∈ keysL d p ∧ atD ((keysL d p).map tI) 0 = some (tI k0) := by
      cases hq : keysL d p with
      | nil => exact absurd hq hkne
      | cons a r => exact ⟨a, List.mem_cons_self, rfl⟩
    have k0l := kk k0 hk0
    have addK : opB .add (tI k0) (.tup [.int 0]) = some (tI (k0 ++ [0])) := by
      rw [o_addT (by simp; omega)]
      simp
    have hd5 : (D.int (d : Int)) ∈ ([.int 2, .int 3, .int 4, .bl false, .int (-1)] : List D) := by
      have : d = 2 ∨ d = 3 ∨ d = 4 := by omega
      rcases this with rfl | rfl | rfl <;> simp
    have ok_tI : ∀ {q : List Int}, q.length ≤ 1000000 → okThing (tI q) = true := fun {q} h => by
      unfold okThing
      simp only [Bool.and_eq_true, decide_eq_true_eq, List.all_eq_true]
      refine ⟨⟨deep_tI, by simpa [D.items] using h⟩, fun e he => ?_⟩
      obtain ⟨x, hx, rfl⟩ := List.mem_map.mp (show e ∈ q.map D.int from he)
      simp [D.items]
    have things2 : ∀ x ∈ ([tI k7, .lst (k0.map .int), tI (k0 ++ [0]), repD (.int d) p, repD (.bl false) p, .non, repD (.int (-1)) p] : List D), okThing x = true ∧ x.plain = true := fun x hx => by
      have rp := fun y hy => List.all_eq_true.mp (List.all_eq_true.mp reps2_ok p hp3) y hy
      simp only [Bool.and_eq_true] at rp
      simp only [List.mem_cons, List.not_mem_nil, or_false] at hx
      rcases hx with rfl | rfl | rfl | rfl | rfl | rfl | rfl
      · exact ⟨ok_tI (kl k7 hk7), plain_tI⟩
      · exact ⟨ok_tI (q := k0) (kl k0 hk0), plain_tI (l := k0)⟩
      · exact ⟨ok_tI (by simp; omega), plain_tI⟩
      · exact rp _ hd5
      · exact rp _ (by simp)
      · exact ⟨rfl, rfl⟩
      · exact rp _ (by simp)
    refine seq_for (fun ρ => ∃ t, ρ = [.val (.scr ns), .val (.ptr 0), .val (mkT p d m), .val (mkD ix p d m), .val (.lst ((keysL d p).map tI)), .val (tTt l), .val (lT ls), .no, .val (.lst (((keysL d p).filter fun k => fitsB k l).map tI)), a, b, .val (.lst (ks.map tI)), .val (tTt (leastB p ks)), c, t]) (ds := [.lst [tI k7, .lst (k0.map .int), tI (k0 ++ [0]), repD (.int d) p, repD (.bl false) p, .non, repD (.int (-1)) p]]) (st1 := rowSt ns s7) (by simp only [exs, ex, ev, evs, rb_ok, rb_exc, ro_ok, ro_exc, ob_nx, ob_rt, ob_exc, oo_some, rs_some, an_nx, an_rt, an_exc, bi_some, bi_some', FD.start, List.map_cons, List.map_nil, List.length_cons, List.length_nil, List.cons_append, List.nil_append, List.replicate, List.getElem?_cons_zero, List.getElem?_cons_succ, List.set_cons_zero, List.set_cons_succ, asg, asgs, asgN, asgNs, T.names, T.namess, wipeE, frzE, Option.map_some, if_true, if_false, reduceCtorEq, Nat.zero_add, Nat.reduceAdd, Nat.reduceSub, Nat.reduceLT, Nat.reduceLeDiff, E.isNon, D.isI, Bool.false_or, Bool.true_or, Bool.not_true, Bool.not_false, Bool.true_and, Bool.false_and, Bool.and_true, Bool.or_false, Bool.or_true, Bool.false_eq_true, o_add, o_sub, c_eqI, c_neI, c_lt, c_le, c_gt, c_ge, c_is, c_isnot, b_lenL, b_lenT, b_int, b_tupL, b_tupT, b_lstL, b_lstT, i_sL, i_sT, i_eL, i_eT, slT, slLs, sl1, isiD, tyD, e7, at0, at1, hat0, mulT, addK]) rfl ⟨_, rfl⟩ (by
      rintro x hx ρ ⟨t, rfl⟩
      refine ⟨[.val (.scr ns), .val (.ptr 0), .val (mkT p d m), .val (mkD ix p d m), .val (.lst ((keysL d p).map tI)), .val (tTt l), .val (lT ls), .no, .val (.lst (((keysL d p).filter fun k => fitsB k l).map tI)), a, b, .val (.lst (ks.map tI)), .val (tTt (leastB p ks)), c, .val x], ?_, _, rfl⟩
      rw [show asgN (.nm 14) x ([.val (.scr ns), .val (.ptr 0), .val (mkT p d m), .val (mkD ix p d m), .val (.lst ((keysL d p).map tI)), .val (tTt l), .val (lT ls), .no, .val (.lst (((keysL d p).filter fun k => fitsB k l).map tI)), a, b, .val (.lst (ks.map tI)), .val (tTt (leastB p ks)), c, t]) = some ([.val (.scr ns), .val (.ptr 0), .val (mkT p d m), .val (mkD ix p d m), .val (.lst ((keysL d p).map tI)), .val (tTt l), .val (lT ls), .no, .val (.lst (((keysL d p).filter fun k => fitsB k l).map tI)), a, b, .val (.lst (ks.map tI)), .val (tTt (leastB p ks)), c, .val x]) from rfl, oo_some]
      obtain ⟨t1, t2⟩ := things2 x hx
      obtain ⟨t3, t4, t5⟩ := okThing_ok t1
      refine seq_if (st1 := rowSt ns s7) (alk_if (v := .bl (keyB p d x)) (by simp only [exs, ex, ev, evs, rb_ok, rb_exc, ro_ok, ro_exc, ob_nx, ob_rt, ob_exc, oo_some, rs_some, an_nx, an_rt, an_exc, bi_some, bi_some', FD.start, List.map_cons, List.map_nil, List.length_cons, List.length_nil, List.cons_append, List.nil_append, List.replicate, List.getElem?_cons_zero, List.getElem?_cons_succ, List.set_cons_zero, List.set_cons_succ, asg, asgs, asgN, asgNs, T.names, T.namess, wipeE, frzE, Option.map_some, if_true, if_false, reduceCtorEq, Nat.zero_add, Nat.reduceAdd, Nat.reduceSub, Nat.reduceLT, Nat.reduceLeDiff, E.isNon, D.isI, Bool.false_or, Bool.true_or, Bool.not_true, Bool.not_false, Bool.true_and, Bool.false_and, Bool.and_true, Bool.or_false, Bool.or_true, Bool.false_eq_true, o_add, o_sub, c_eqI, c_neI, c_lt, c_le, c_gt, c_ge, c_is, c_isnot, b_lenL, b_lenT, b_int, b_tupL, b_tupT, b_lstL, b_lstT, i_sL, i_sT, i_eL, i_eT, slT, slLs, sl1, isiD, tyD, s_is_key b0 (show 3 ≤ k + 10 by omega) t3 t4]) (by simp only [exs, ex, ev, evs, rb_ok, rb_exc, ro_ok, ro_exc, ob_nx, ob_rt, ob_exc, oo_some, rs_some, an_nx, an_rt, an_exc, bi_some, bi_some', FD.start, List.map_cons, List.map_nil, List.length_cons, List.length_nil, List.cons_append, List.nil_append, List.replicate, List.getElem?_cons_zero, List.getElem?_cons_succ, List.set_cons_zero, List.set_cons_succ, asg, asgs, asgN, asgNs, T.names, T.namess, wipeE, frzE, Option.map_some, if_true, if_false, reduceCtorEq, Nat.zero_add, Nat.reduceAdd, Nat.reduceSub, Nat.reduceLT, Nat.reduceLeDiff, E.isNon, D.isI, Bool.false_or, Bool.true_or, Bool.not_true, Bool.not_false, Bool.true_and, Bool.false_and, Bool.and_true, Bool.or_false, Bool.or_true, Bool.false_eq_true, o_add, o_sub, c_eqI, c_neI, c_lt, c_le, c_gt, c_ge, c_is, c_isnot, b_lenL, b_lenT, b_int, b_tupL, b_tupT, b_lstL, b_lstT, i_sL, i_sT, i_eL, i_eT, slT, slLs, sl1, isiD, tyD, s_good_key h26 (show pr.defs (ix.fn 34) = some (d__law_good_key ix) from rfl) (show 2 ≤ k + 10 by omega) t3 t2 t4]) (s_alike h23 _ _ rfl (by simp [D.depth]))) rfl rfl) (fun ρ' ⟨t, hρ⟩ => ?_)
    subst hρ
    simp only [exs, ex, ev, evs, rb_ok, rb_exc, ro_ok, ro_exc, ob_nx, ob_rt, ob_exc, oo_some, rs_some, an_nx, an_rt, an_exc, bi_some, bi_some', FD.start, List.map_cons, List.map_nil, List.length_cons, List.length_nil, List.cons_append, List.nil_append, List.replicate, List.getElem?_cons_zero, List.getElem?_cons_succ, List.set_cons_zero, List.set_cons_succ, asg, asgs, asgN, asgNs, T.names, T.namess, wipeE, frzE, Option.map_some, if_true, if_false, reduceCtorEq, Nat.zero_add, Nat.reduceAdd, Nat.reduceSub, Nat.reduceLT, Nat.reduceLeDiff, E.isNon, D.isI, Bool.false_or, Bool.true_or, Bool.not_true, Bool.not_false, Bool.true_and, Bool.false_and, Bool.and_true, Bool.or_false, Bool.or_true, Bool.false_eq_true, o_add, o_sub, c_eqI, c_neI, c_lt, c_le, c_gt, c_ge, c_is, c_isnot, b_lenL, b_lenT, b_int, b_tupL, b_tupT, b_lstL, b_lstT, i_sL, i_sT, i_eL, i_eT, slT, slLs, sl1, isiD, tyD, e8]
  exact ⟨_, by rw [body]; rfl⟩
end
end Mini.K00
end
section
set_option Elab.async false
set_option maxRecDepth 100000
set_option maxHeartbeats 0
set_option linter.all false
open PySem PySem.W PySem.Calls PyProof.Rows Mini Mini.P
theorem PySem.Challenge.cw_lockwise_k00_makes_holds : PySem.Challenge.rw_lockwise_k00_makes.Holds := by
  w_on; o_law
  refine HandSHeadRun.head_any (r := OpenLaw.row PySem.Challenge.rw_lockwise_k00_makes) (q := view (OpenLaw.row PySem.Challenge.rw_lockwise_k00_makes).prog [lawI]) (H := hk) (ob := ob) (M := 4000) (loose := loose) (d := HandSHeadRun.topDef (OpenLaw.row PySem.Challenge.rw_lockwise_k00_makes).prog lawI) (kwd := []) ob_eq
    (by kernel_rfl) (fun s => by kernel_rfl) Mini.P.run (by kernel_rfl) (by kernel_rfl) (by kernel_rfl) (by rfl) (by first | assumption | decide +kernel) (by decide +kernel) ⟨rfl, rfl, rfl, rfl, rfl, by decide +kernel⟩ ?hw ?hc
  case hw => w_witness2
  case hc =>
    refine walk_ofG (l := PySem.Challenge.rw_lockwise_k00_makes) (n := 63) (k := 8 * 10 + 8) (x := "script") rfl (by decide) (by kernel_rfl) ⟨rfl, by decide, by decide⟩ ?F
    intro w mg fa h Y G hmg0
    obtain ⟨K, KX, c⟩ := Y
    have hmg : mg ("law" : PySem.Str) = some (.ref fa) := by
      have e : (HandSHeadRun.topDef (OpenLaw.row PySem.Challenge.rw_lockwise_k00_makes).prog lawI).name = ("law" : PySem.Str) := by kernel_rfl
      rw [← e]
      exact hmg0
    exact ⟨K, KX, lawAt_of (t := tx) (m := 10) (wf := 100) (f := lawF) says KX G c rfl rfl rfl rfl hmg fun ns _ _ => Mini.K00.s_law ns 100 0⟩
end
