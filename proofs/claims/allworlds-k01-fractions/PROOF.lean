import PyProof.Rows.All
import HandS.ForMost
import HandS.Exc
import HandS.TupAny
import HandS.TupMul
import HandS.Wide
import HandS.Evl
import HandS.Zip
import HandS.Style
import KE.DataEq
import KE.DataAny
import KE.DataIsa
import HandS.TupLe
import KE.SortData
import PyProof.TupleOfSeq
import HandS.Lambda
import KE.KRevSl
import KE.GoesNew
import KE.GoesMore
import KE.GoesEnum
import HandS.Ends
import HandS.Words
import HandS.ForList
import HandS.ExcOwn
import HandS.TupSets
import HandS.SetFor
import PyProof.ListNew
import HandS.Strs
import HandS.ExcInit
import KE.KExcSuper
import HandS.HeadWalk
import HandS.TryOnly
import HandS.ExcField
import HandS.ExcIs
import KE.KExcIs
import KE.KNestM
import PySem.Challenge.RW_allworlds_k01_whole_fractions
import PyProof.FitsInt
import PyProof.ReprLen

section
set_option linter.all false
namespace Ev
open PySem
theorem andI {a b : Bool} : ((a && b) = true) = (a = true ∧ b = true) := Bool.and_eq_true a b
theorem decI {p : Prop} [Decidable p] : (decide p = true) = p := decide_eq_true_eq

inductive D where
  | non | bl (b : Bool) | int (i : Int) | str (s : Str)
  | tup (xs : List D) | lst (xs : List D)
  | obj (c : Nat) (ns : List Str) (ds : List D)
  | ref (k : Nat)
  deriving Inhabited

inductive Sl where
  | none | val (d : D) | own (d : D) | bor (d : D)
  | exc (c : Nat) (ns : List Str) (fs : List D)
  | act

abbrev Env := List Sl
/-- what changes: lists, objects -/
abbrev Heap := List D

inductive Out (α : Type) where
  | ok (a : α) (h : Heap)
  | err (c : Nat) (ns : List Str) (fs : List D) (h : Heap)
abbrev R (α : Type) := Option (Out α)
def R.bind {α β : Type} (x : R α) (f : α → Heap → R β) : R β :=
  match x with
  | none => none
  | some (.ok a h) => f a h
  | some (.err c ns fs h) => some (.err c ns fs h)
@[reducible] def rok {α : Type} (a : α) (h : Heap) : R α := some (.ok a h)
@[simp] theorem R.bind_none {α β : Type} (f : α → Heap → R β) : R.bind none f = none := rfl
@[simp] theorem R.bind_ok {α β : Type} (a : α) (h : Heap) (f : α → Heap → R β) : R.bind (some (.ok a h)) f = f a h := rfl
@[simp] theorem R.bind_err {α β : Type} (c : Nat) (ns : List Str) (fs : List D) (h : Heap) (f : α → Heap → R β) : R.bind (some (.err c ns fs h)) f = some (.err c ns fs h) := rfl
/-- no error may leave from here -/
def calmly {α : Type} : R α → R α
  | some (.ok a h) => some (.ok a h)
  | _ => none
@[simp] theorem calmly_ok {α : Type} (a : α) (h : Heap) : calmly (some (.ok a h)) = some (.ok a h) := rfl

inductive Op1 where
  | neg | not | len | tuple | list | sorted | sum | any | all | abs | int | repr | max | min | range | rev | isTup | isInt | isStr | isBool | sset
  deriving DecidableEq, Repr
inductive Op2 where
  | add | sub | mul | fdiv | mod | pow
  | eq | ne | lt | le | gt | ge | inn | nin | is | isnot
  | ix | range | max | min | sfrom | sto | join
  deriving DecidableEq, Repr
inductive Op3 where
  | slice | range
  deriving DecidableEq, Repr

inductive Tg where
  | name (i : Nat)
  | tup (ts : List Tg)

inductive E where
  | cst (d : D)
  | var (i : Nat)
  | view (i : Nat)
  | peek (i : Nat)
  | tup (es : List E)
  | lst (es : List E)
  | cell (a : E)
  | op1 (o : Op1) (a : E)
  | op2 (o : Op2) (a b : E)
  | op3 (o : Op3) (a b c : E)
  | chain (o p : Op2) (a b c : E)
  | and (a b : E)
  | or (a b : E)
  | ite (t a b : E)
  | call (f : Nat) (es : List E)
  | callK (f : Nat) (perm : List Nat) (es : List E)
  | lc (elt : E) (tg : Tg) (it : E) (cnd : List E)
  | lc2 (elt : E) (tg : Tg) (it : E) (cnd : List E) (tg2 : Tg) (it2 : E) (cnd2 : List E)
  | pop (b : E)
  | enm (a : E)
  | zip (a b : E)
  | attr (a : E) (cs : List Nat) (f : Str)
  | new (c f : Nat) (es : List E)
  | newM (c f : Nat) (es : List E)
  | meth (c f : Nat) (es : List E)
  | isObj (cs no : List Nat) (a : E)
  | heard (f : Nat) (e : E)
  | act
  | exFld (i : Nat) (cs : List Nat) (f : Str)
  | exIs (i : Nat) (cs no : List Nat)

mutual
inductive S where
  | asg (tg : Tg) (e : E)
  | par (ts : List (Bool × Nat)) (es : List E)
  | frz (i : Nat)
  | aug (i : Nat) (o : Op2) (e : E)
  | app (i : Nat) (e : E)
  | boxApp (b e : E)
  | boxSet (b i e : E)
  | setO (i : Nat) (j e : E)
  | ex (e : E)
  | ifs (t : E) (a b : List S)
  | whil (t : E) (b : List S)
  | for (tg : Tg) (it : E) (b : List S)
  | ret (e : E)
  | brk | cont | pass
  | raise (c : Nat) (ns : List Str) (es : List E)
  | tryy (b : List S) (hs : Hs)
  | setF (b : E) (cs : List Nat) (f : Str) (e : E)
/-- except clauses: the classes that match, those that don't, the name, the suite -/
inductive Hs where
  | nil
  | cons (cs no : List Nat) (i : Option Nat) (b : List S) (r : Hs)
end

def Sl.get : Option Sl → Option D
  | some (Sl.val d) => some d
  | _ => Option.none
def Sl.see : Option Sl → Option D
  | some (Sl.val d) => some d
  | some (Sl.own d) => some d
  | some (Sl.bor d) => some d
  | _ => Option.none
def Sl.peek : Option Sl → Option D
  | some (Sl.val d) => some d
  | some (Sl.bor d) => some d
  | _ => Option.none
/-- what a cell may hold -/
def cellD : D → Option D
  | .lst xs => some (.lst xs)
  | .obj c ns ds => some (.obj c ns ds)
  | _ => none
def deref (h : Heap) : D → Option D
  | .ref k => (h[k]?).bind cellD
  | d => some d

def isOwnSl : Option Sl → Bool
  | some (.own _) => true
  | _ => false
mutual
def Tg.slots : Tg → List Nat
  | .name i => [i]
  | .tup ts => Tg.slotss ts
def Tg.slotss : List Tg → List Nat
  | [] => []
  | t :: ts => Tg.slots t ++ Tg.slotss ts
end
/-- the slots are made empty, if none is an own list -/
def clear (env : Env) : List Nat → Option Env
  | [] => some env
  | i :: is => if isOwnSl env[i]? then none else clear (env.set i .none) is
mutual
def setTg : Tg → D → Env → Option Env
  | .name i, d, env => if isOwnSl env[i]? then none else some (env.set i (.val d))
  | .tup ts, .tup ds, env => setTgs ts ds env
  | .tup _, _, _ => none
def setTgs : List Tg → List D → Env → Option Env
  | [], [], env => some env
  | t :: ts, d :: ds, env => (setTg t d env).bind (setTgs ts ds)
  | _, _, _ => none
end

/-- what a slot may own -/
def ownable : D → Bool
  | .lst _ => true
  | _ => false
/-- several slots at once; true: the slot is to own the list -/
def setPar : List (Bool × Nat) → List D → Env → Option Env
  | [], [], env => some env
  | (false, i) :: ts, d :: ds, env => if isOwnSl env[i]? then none else setPar ts ds (env.set i (.val d))
  | (true, i) :: ts, d :: ds, env => if i < env.length && ownable d then setPar ts ds (env.set i (.own d)) else none
  | _, _, _ => none

def compLoop {α : Type} (f : D → Heap → R (List α)) : List D → Heap → R (List α)
  | [], h => rok [] h
  | x :: xs, h => R.bind (f x h) fun o h => R.bind (compLoop f xs h) fun ys h => rok (o ++ ys) h

inductive Flow where
  | nx (env : Env) | brk (env : Env) | cont (env : Env) | ret (d : D)
  | exc (env : Env) (c : Nat) (ns : List Str) (fs : List D)

def forLoop (f : D → Env → Heap → R Flow) : List D → Env → Heap → R Flow
  | [], env, h => rok (.nx env) h
  | x :: xs, env, h => R.bind (f x env h) fun fl h => match fl with
    | .nx env => forLoop f xs env h
    | .cont env => forLoop f xs env h
    | .brk env => rok (.nx env) h
    | .ret d => rok (.ret d) h
    | .exc env c ns fs => rok (.exc env c ns fs) h
/-- an error in an expression is one of the statement -/
def R.bindS {α : Type} (x : R α) (env : Env) (f : α → Heap → R Flow) : R Flow := match x with
  | none => none
  | some (.ok a h) => f a h
  | some (.err c ns fs h) => rok (.exc env c ns fs) h
@[simp] theorem R.bindS_ok {α : Type} (a : α) (h : Heap) (env : Env) (f : α → Heap → R Flow) : R.bindS (some (.ok a h)) env f = f a h := rfl
@[simp] theorem R.bindS_err {α : Type} (c : Nat) (ns : List Str) (fs : List D) (h : Heap) (env : Env) (f : α → Heap → R Flow) : R.bindS (some (.err c ns fs h)) env f = rok (.exc env c ns fs) h := rfl

def loopW (f : Env → Heap → R (Sum Env Flow)) (env : Env) (h : Heap) : R Flow :=
  match f env h with
  | none => none
  | some (.err c ns fs h) => some (.err c ns fs h)
  | some (.ok (.inr fl) h) => some (.ok fl h)
  | some (.ok (.inl env) h) => loopW f env h
partial_fixpoint

/-! ### operations on values -/
def LIM : Nat := 16777216
mutual
def D.eqv : D → D → Bool
  | .non, .non => true
  | .bl a, .bl b => a == b
  | .bl a, .int j => (if a then 1 else 0) == j
  | .int i, .bl b => i == (if b then 1 else 0)
  | .int i, .int j => i == j
  | .str x, .str y => x == y
  | .lst xs, .lst ys => D.eqvs xs ys
  | .tup xs, .tup ys => D.eqvs xs ys
  | _, _ => false
def D.eqvs : List D → List D → Bool
  | [], [] => true
  | x :: xs, y :: ys => D.eqv x y && D.eqvs xs ys
  | _, _ => false
end
mutual
/-- no cell within -/
def D.plain : D → Bool
  | .non | .bl _ | .int _ | .str _ => true
  | .tup xs | .lst xs => D.plains xs
  | .obj _ _ _ | .ref _ => false
def D.plains : List D → Bool
  | [] => true
  | x :: xs => D.plain x && D.plains xs
end
mutual
def D.depth : D → Nat
  | .tup xs | .lst xs => D.depths xs + 1
  | .non | .bl _ | .int _ | .str _ | .obj _ _ _ | .ref _ => 0
def D.depths : List D → Nat
  | [] => 0
  | x :: xs => max (D.depth x) (D.depths xs)
end
/-- two values may be compared by == -/
def cmpOk (x y : D) : Bool := D.plain x && D.plain y && decide (min (D.depth x) (D.depth y) ≤ 64)
def allCmp (x : D) (ys : List D) : Bool := ys.all fun y => cmpOk y x

def ixN (len : Nat) (j : Int) : Option Nat :=
  if 0 ≤ j then (if j < len then some j.toNat else none)
  else if -(len : Int) ≤ j then some (j + len).toNat else none
def atI {α : Type} (l : List α) (i : Int) : Option α := (ixN l.length i).bind fun j => l[j]?
def sIx (len dflt : Nat) : Option Int → Nat
  | none => dflt
  | some k => if k < 0 then (k + (len : Int)).toNat else min k.toNat len
def cut {α : Type} (xs : List α) (lo hi : Option Int) : List α := (xs.drop (sIx xs.length 0 lo)).take (sIx xs.length xs.length hi - sIx xs.length 0 lo)
def cutStr (s : Str) (lo hi : Option Int) : Str := ⟨(cut s.cps.toList lo hi).toArray⟩
def mulOk (i j : Int) : Bool := decide (i.natAbs < 2 ^ 64) || decide (j.natAbs < 2 ^ 64) || decide (i.natAbs.log2 + j.natAbs.log2 < 1000000)
def rangeD (a c : Int) (n : Nat) : List D := (List.range n).map fun (k : Nat) => D.int (a + (k : Int) * c)
def small62 (a : Int) : Bool := decide (-(2 ^ 62) ≤ a) && decide (a < 2 ^ 62)
def ints? : List D → Option (List Int)
  | [] => some []
  | .int i :: r => (ints? r).map (i :: ·)
  | _ :: _ => none
/-- ints in a tuple; tuples of ints -/
def keyI : D → Option (List Int)
  | .tup ds => ints? ds
  | _ => none
def keys? : List D → Option (List (List Int))
  | [] => some []
  | d :: ds => (keyI d).bind fun k => (keys? ds).map (k :: ·)
/-- each once -/
def dd {α : Type} [DecidableEq α] : List α → List α
  | [] => []
  | x :: xs => if x ∈ xs then dd xs else x :: dd xs
def leI (a b : List Int) : Bool := !decide (b < a)
def tupD (k : List Int) : D := .tup (k.map .int)
/-- sorted(set(..)) -/
def uniL (ds : List D) : Option (List D) := if ds.length < 64 then (match ints? ds with
  | some is => some (((dd is).mergeSort fun a b => decide (a ≤ b)).map .int)
  | none => (keys? ds).map fun ks => ((dd ks).mergeSort leI).map tupD) else none
def bls? : List D → Option (List Bool)
  | [] => some []
  | .bl i :: r => (bls? r).map (i :: ·)
  | _ :: _ => none
def strs? : List D → Option (List Str)
  | [] => some []
  | .str i :: r => (strs? r).map (i :: ·)
  | _ :: _ => none
def items? : D → Option (List D)
  | .tup xs => some xs
  | .lst xs => some xs
  | _ => none

def D.isNon : D → Bool | .non => true | _ => false
def D.isTup : D → Bool | .tup _ => true | _ => false
def D.isInt : D → Bool | .int _ => true | .bl _ => true | _ => false
def D.isStr : D → Bool | .str _ => true | _ => false
def D.isBool : D → Bool | .bl _ => true | _ => false
def zipD (xs ys : List D) : List D := xs.zipWith (fun x y => D.tup [x, y]) ys
def enumD : Nat → List D → List D
  | _, [] => []
  | n, x :: xs => D.tup [.int n, x] :: enumD (n + 1) xs
def strD (s : Str) : List D := s.cps.toList.map fun c => D.str ⟨#[c]⟩
/-- the items that are walked -/
def walk? : D → Option (List D)
  | .tup xs => some xs
  | .lst xs => some xs
  | .str s => if s.cps.size ≤ LIM then some (strD s) else none
  | _ => none
def repOk (n : Nat) (k : Int) : Bool := decide (n ≤ 1000) && decide (k ≤ 1000) && decide (-1000 ≤ k)
def leInt (a b : Int) : Bool := decide (a ≤ b)
def inStr (x y : Str) : Bool := !(Builtin.Str.occurrences y x 0 y.length 1).isEmpty

/-- what repr writes is not needed: a text that is a function of the value, if it can be written -/
structure ReprF where
  text : D → Str
  ok : D → Bool
  srt : List D → Option (List D)
  uni : List D → Option (List D)

/-- a slice with a step of one -/
def slD (lo hi : Option Int) : D → Option D
  | .lst xs => some (.lst (cut xs lo hi))
  | .tup xs => some (.tup (cut xs lo hi))
  | .str s => if s.cps.size ≤ LIM then some (.str (cutStr s lo hi)) else none
  | _ => none
def o1 (F : ReprF) : Op1 → D → Option D
  | .neg, .int i => some (.int (-i))
  | .not, .bl b => some (.bl (!b))
  | .len, .lst xs => some (.int xs.length)
  | .len, .tup xs => some (.int xs.length)
  | .len, .str s => if s.cps.size ≤ LIM then some (.int s.cps.size) else none
  | .tuple, .lst xs => some (.tup xs)
  | .tuple, .tup xs => some (.tup xs)
  | .list, .lst xs => some (.lst xs)
  | .list, .tup xs => some (.lst xs)
  | .sorted, .lst xs => (F.srt xs).map .lst
  | .sorted, .tup xs => (F.srt xs).map .lst
  | .sset, .lst xs => (F.uni xs).map .lst
  | .sset, .tup xs => (F.uni xs).map .lst
  | .sum, .lst xs => (ints? xs).map fun is => .int is.sum
  | .any, .lst xs => (bls? xs).map fun bs => .bl (bs.any id)
  | .all, .lst xs => (bls? xs).map fun bs => .bl (bs.all id)
  | .abs, .int i => some (.int (if i < 0 then -i else i))
  | .int, .int i => some (.int i)
  | .int, .bl b => some (.int (if b then 1 else 0))
  | .repr, d => if D.plain d && F.ok d then some (.str (F.text d)) else none
  | .range, .int n => if small62 n && decide (n ≤ LIM) then some (.lst (rangeD 0 1 n.toNat)) else none
  | .rev, .lst xs => some (.lst xs.reverse)
  | .rev, .tup xs => some (.tup xs.reverse)
  | .isTup, d => if D.plain d then some (.bl d.isTup) else none
  | .isInt, d => if D.plain d then some (.bl d.isInt) else none
  | .isStr, d => if D.plain d then some (.bl d.isStr) else none
  | .isBool, d => if D.plain d then some (.bl d.isBool) else none
  | _, _ => none
def o2 : Op2 → D → D → Option D
  | .add, .int a, .int b => some (.int (a + b))
  | .add, .str a, .str b => if a.cps.size + b.cps.size ≤ LIM then some (.str (a ++ b)) else none
  | .add, .tup a, .tup b => if a.length + b.length ≤ LIM then some (.tup (a ++ b)) else none
  | .add, .lst a, .lst b => if a.length + b.length ≤ LIM then some (.lst (a ++ b)) else none
  | .sub, .int a, .int b => some (.int (a - b))
  | .mul, .int a, .int b => if mulOk a b then some (.int (a * b)) else none
  | .mul, .tup a, .int k => if repOk a.length k then some (.tup (List.replicate k.toNat a).flatten) else none
  | .mul, .str a, .int k => if repOk a.cps.size k then some (.str ⟨(List.replicate k.toNat a.cps.toList).flatten.toArray⟩) else none
  | .fdiv, .int a, .int b => if decide (b ≠ 0) && decide (b.natAbs.log2 < 9000) then some (.int (if 0 < b then a / b else a.fdiv b)) else none
  | .mod, .int a, .int b => if decide (0 < b) then some (.int (a % b)) else none
  | .pow, .int a, .int b => if decide (0 ≤ b) && decide (b ≤ 1000000) && decide (a.natAbs < 2 ^ 64) then some (.int (a ^ b.toNat)) else none
  | .eq, x, y => if cmpOk x y then some (.bl (D.eqv x y)) else none
  | .ne, x, y => if cmpOk x y then some (.bl (!D.eqv x y)) else none
  | .lt, .int a, .int b => some (.bl (decide (a < b)))
  | .le, .int a, .int b => some (.bl (decide (a ≤ b)))
  | .gt, .int a, .int b => some (.bl (decide (b < a)))
  | .ge, .int a, .int b => some (.bl (decide (b ≤ a)))
  | .lt, .str a, .str b => some (.bl (decide (a.cps.toList < b.cps.toList)))
  | .le, .str a, .str b => some (.bl (!decide (b.cps.toList < a.cps.toList)))
  | .inn, x, .lst ys => if D.plain x && D.plains ys && decide (D.depth x ≤ 64) then some (.bl (ys.any fun y => D.eqv y x)) else none
  | .inn, x, .tup ys => if D.plain x && D.plains ys && decide (D.depth x ≤ 64) then some (.bl (ys.any fun y => D.eqv y x)) else none
  | .inn, .str x, .str y => some (.bl (inStr x y))
  | .nin, x, .lst ys => if D.plain x && D.plains ys && decide (D.depth x ≤ 64) then some (.bl (!ys.any fun y => D.eqv y x)) else none
  | .nin, x, .tup ys => if D.plain x && D.plains ys && decide (D.depth x ≤ 64) then some (.bl (!ys.any fun y => D.eqv y x)) else none
  | .nin, .str x, .str y => some (.bl (!inStr x y))
  | .is, x, .non => some (.bl x.isNon)
  | .isnot, x, .non => some (.bl (!x.isNon))
  | .is, .bl a, .bl b => some (.bl (decide (a = b)))
  | .isnot, .bl a, .bl b => some (.bl (!decide (a = b)))
  | .ix, .lst xs, .int i => atI xs i
  | .ix, .tup xs, .int i => atI xs i
  | .ix, .str s, .int i => if s.cps.size ≤ LIM then (atI s.cps.toList i).map fun c => .str ⟨#[c]⟩ else none
  | .range, .int a, .int b => if small62 a && small62 b && decide ((b - a).toNat ≤ LIM) then some (.lst (rangeD a 1 (b - a).toNat)) else none
  | .max, .int a, .int b => some (.int (if b > a then b else a))
  | .min, .int a, .int b => some (.int (if b < a then b else a))
  | .sfrom, x, .int i => slD (some i) none x
  | .sto, x, .int i => slD none (some i) x
  | .join, .str a, .lst ys => (strs? ys).bind fun zs => if (zs.map (·.length)).sum + zs.length * a.length ≤ LIM then some (.str (Str.join a zs)) else none
  | _, _, _ => none
/-- x op= y, the value no list -/
def augOp : Op2 → D → D → Option D
  | .add, .int a, .int b => some (.int (a + b))
  | .mul, .int a, .int b => if mulOk a b then some (.int (a * b)) else none
  | .add, .str a, .str b => if a.cps.size + b.cps.size ≤ LIM then some (.str (a ++ b)) else none
  | _, _, _ => none
/-- how many turns range(a, b, c) has -/
def turns (a b c : Int) : Nat := if 0 < c then (if a < b then ((b - a - 1) / c + 1).toNat else 0) else (if b < a then ((a - b - 1) / (-c) + 1).toNat else 0)
def o3 : Op3 → D → D → D → Option D
  | .slice, x, .int i, .int j => slD (some i) (some j) x
  | .range, .int a, .int b, .int c => if small62 a && small62 b && decide (c ≠ 0) && decide (c.natAbs < 2 ^ 30) && decide (turns a b c ≤ LIM) then some (.lst (rangeD a c (turns a b c))) else none
  | _, _, _, _ => none

/-! ### the evaluator -/
/-- attributes by their names -/
def look (f : Str) : List Str → List D → Option D
  | n :: ns, d :: ds => if n = f then some d else look f ns ds
  | _, _ => none
/-- an attribute is stored: in its place, or as a last one -/
def putD (f : Str) (d : D) : List Str → List D → List Str × List D
  | n :: ns, x :: ds => if n = f then (n :: ns, d :: ds) else let (a, b) := putD f d ns ds; (n :: a, x :: b)
  | _, _ => ([f], [d])
mutual
/-- all cells within are below k -/
def D.under (k : Nat) : D → Bool
  | .non | .bl _ | .int _ | .str _ => true
  | .tup xs | .lst xs | .obj _ _ xs => D.unders k xs
  | .ref j => decide (j < k)
def D.unders (k : Nat) : List D → Bool
  | [] => true
  | x :: xs => D.under k x && D.unders k xs
end
/-- the last cell is an object of class c that nobody else knows: the object, the cells without it -/
def sealed (c k : Nat) (h : Heap) : Option (D × Heap) := if h.length = k + 1 then (match h[k]? with
  | some (.obj c' ns ds) => if c' = c && D.unders k ds && D.unders k (h.take k) then some (.obj c ns ds, h.take k) else none
  | _ => none) else none
/-- an error leaves the making -/
def unmade (k : Nat) (fs : List D) (h : Heap) : Option Heap := if h.length = k + 1 && D.unders k fs && D.unders k (h.take k) then some (h.take k) else none
def isExc : Sl → Bool
  | .exc _ _ _ => true
  | _ => false
def noExc (env : Env) : Bool := env.all fun s => !isExc s
/-- what calls are: a def's, one that gets a lambda, the lambda's -/
structure Gm where
  fn : Nat → List D → Heap → R D
  fnA : Nat → (Heap → R D) → Heap → R D
  act : Heap → R D
section
variable (F : ReprF) (Γ : Gm)
def lift (h : Heap) : Option D → R D
  | none => none
  | some d => rok d h
@[simp] theorem lift_none (h : Heap) : lift h none = none := rfl
@[simp] theorem lift_some (h : Heap) (d : D) : lift h (some d) = rok d h := rfl
def mkObj (c k : Nat) (h : Heap) : R D := match sealed c k h with
  | some (d, h) => rok d h
  | none => none
/-- C(..): __init__ with a new cell as self, then the object is taken out of it -/
def newE (c k : Nat) : R D → R D
  | some (.ok .non h) => mkObj c k h
  | some (.err e ns fs h) => match unmade k fs h with
    | some h => some (.err e ns fs h)
    | none => none
  | _ => none
def newME (k : Nat) : R D → R D
  | some (.ok .non h) => rok (.ref k) h
  | some (.err e ns fs h) => some (.err e ns fs h)
  | _ => none
/-- the second operand of a join may not fail -/
def calmIf {α : Type} : Op2 → R α → R α
  | .join, r => calmly r
  | _, r => r
def isC (c : Nat) (h : Heap) (d : D) : Bool := match deref h d with
  | some (.obj c' _ _) => decide (c' = c)
  | _ => false
/-- a cell that holds a list -/
def isL (h : Heap) : D → Bool
  | .ref k => (match h[k]? with | some (.lst _) => true | _ => false)
  | _ => false
/-- a slot that owns a list -/
def isOL : Option Sl → Bool
  | some (.own (.lst _)) => true
  | _ => false
def attrD (cs : List Nat) (f : Str) : D → Option D
  | .obj c ns ds => if cs.contains c then look f ns ds else none
  | _ => none
def among (cs no : List Nat) (c : Nat) : Option Bool := if cs.contains c then some true else if no.contains c then some false else none
def isObjD (cs no : List Nat) : D → Option D
  | .obj c _ _ => (among cs no c).map .bl
  | .ref _ => none
  | _ => some (.bl false)
mutual
def evE : E → Env → Heap → R D
  | .cst d, _, h => rok d h
  | .var i, env, h => lift h (Sl.get env[i]?)
  | .view i, env, h => lift h (Sl.see env[i]?)
  | .peek i, env, h => lift h (Sl.peek env[i]?)
  | .tup es, env, h => R.bind (evEs es env h) fun ds h => rok (.tup ds) h
  | .lst es, env, h => R.bind (evEs es env h) fun ds h => rok (.lst ds) h
  | .cell a, env, h => R.bind (evE a env h) fun d h => match d with
    | .lst xs => rok (.ref h.length) (h ++ [.lst xs])
    | _ => none
  | .op1 o a, env, h => R.bind (evE a env h) fun x h => lift h ((deref h x).bind (o1 F o))
  | .op2 o a b, env, h => R.bind (evE a env h) fun x h => R.bind (calmIf o (evE b env h)) fun y h => lift h ((deref h x).bind fun x => (deref h y).bind fun y => o2 o x y)
  | .op3 o a b c, env, h => R.bind (evE a env h) fun x h => R.bind (evE b env h) fun y h => R.bind (calmly (evE c env h)) fun z h => lift h ((deref h x).bind fun x => o3 o x y z)
  | .chain o p a b c, env, h => R.bind (evE a env h) fun x h => R.bind (evE b env h) fun y h => R.bind (lift h (o2 o x y)) fun r h => match r with
    | .bl true => R.bind (evE c env h) fun z h => lift h (o2 p y z)
    | .bl false => rok (.bl false) h
    | _ => none
  | .and a b, env, h => R.bind (evE a env h) fun x h => match x with
    | .bl true => evE b env h
    | .bl false => rok (.bl false) h
    | _ => none
  | .or a b, env, h => R.bind (evE a env h) fun x h => match x with
    | .bl false => evE b env h
    | .bl true => rok (.bl true) h
    | _ => none
  | .ite t a b, env, h => R.bind (evE t env h) fun x h => match x with
    | .bl true => evE a env h
    | .bl false => evE b env h
    | _ => none
  | .call f es, env, h => R.bind (evEs es env h) fun ds h => Γ.fn f ds h
  | .callK f perm es, env, h => R.bind (evEs es env h) fun ds h => match perm.mapM (ds[·]?) with
    | some ds => Γ.fn f ds h
    | none => none
  | .lc elt tg it cnd, env, h => R.bind (evE it env h) fun s h => match walk? s with
    | some xs => R.bind (calmly (compLoop (fun x h => match (clear env tg.slots).bind (setTg tg x) with
        | none => none
        | some env => R.bind (evC cnd env h) fun b h => if b then R.bind (evE elt env h) fun y h => rok [y] h else rok [] h) xs h)) fun ys h => rok (.lst ys) h
    | none => none
  | .lc2 elt tg it cnd tg2 it2 cnd2, env, h => R.bind (evE it env h) fun s h => match walk? s with
    | some xs => R.bind (calmly (compLoop (fun x h => match (clear env (tg.slots ++ tg2.slots)).bind (setTg tg x) with
        | none => none
        | some env => R.bind (evC cnd env h) fun b h => if b then R.bind (evE it2 env h) fun s h => match walk? s with
          | some xs => compLoop (fun x h => match (clear env tg2.slots).bind (setTg tg2 x) with
              | none => none
              | some env => R.bind (evC cnd2 env h) fun b h => if b then R.bind (evE elt env h) fun y h => rok [y] h else rok [] h) xs h
          | none => none
          else rok [] h) xs h)) fun ys h => if ys.length ≤ LIM then rok (.lst ys) h else none
    | none => none
  | .enm a, env, h => R.bind (evE a env h) fun x h => lift h ((items? x).map fun xs => .lst (enumD 0 xs))
  | .zip a b, env, h => R.bind (evE a env h) fun x h => R.bind (evE b env h) fun y h => lift h ((items? x).bind fun xs => (items? y).bind fun ys => some (.lst (zipD xs ys)))
  | .pop b, env, h => R.bind (evE b env h) fun x h => match x with
    | .ref k => match h[k]? with
      | some (.lst xs) => match xs.getLast? with
        | some y => rok y (h.set k (.lst xs.dropLast))
        | none => none
      | _ => none
    | _ => none
  | .attr a cs f, env, h => R.bind (evE a env h) fun x h => lift h ((deref h x).bind (attrD cs f))
  | .new c f es, env, h => R.bind (evEs es env h) fun ds h => newE c h.length (Γ.fn f (.ref h.length :: ds) (h ++ [.obj c [] []]))
  | .newM c f es, env, h => R.bind (evEs es env h) fun ds h => newME h.length (Γ.fn f (.ref h.length :: ds) (h ++ [.obj c [] []]))
  | .meth c f es, env, h => R.bind (evEs es env h) fun ds h => match ds with
    | d :: ds => if isC c h d then Γ.fn f (d :: ds) h else none
    | [] => none
  | .isObj cs no a, env, h => R.bind (evE a env h) fun x h => lift h ((deref h x).bind (isObjD cs no))
  | .heard f e, env, h => calmly (Γ.fnA f (fun h => evE e env h) h)
  | .act, _, h => Γ.act h
  | .exFld i cs f, env, h => match env[i]? with
    | some (.exc c ns fs) => if cs.contains c then lift h (look f ns fs) else none
    | _ => none
  | .exIs i cs no, env, h => match env[i]? with
    | some (.exc c _ _) => lift h ((among cs no c).map .bl)
    | _ => none
def evEs : List E → Env → Heap → R (List D)
  | [], _, h => rok [] h
  | e :: es, env, h => R.bind (evE e env h) fun d h => R.bind (evEs es env h) fun ds h => rok (d :: ds) h
def evC : List E → Env → Heap → R Bool
  | [], _, h => rok true h
  | e :: es, env, h => R.bind (evE e env h) fun d h => match d with
    | .bl true => evC es env h
    | .bl false => rok false h
    | _ => none
end
/-- an except suite gets its error in the slot i -/
def onEnv (i : Option Nat) (c : Nat) (ns : List Str) (fs : List D) (env : Env) : Option Env := match i with
  | some i => if isOwnSl env[i]? then none else some (env.set i (.exc c ns fs))
  | none => some env
/-- behind it: the name is gone -/
def offEnv (i : Option Nat) (env : Env) : Option Env := match i with
  | some i => if isOwnSl env[i]? then none else if noExc (env.set i .none) then some (env.set i .none) else none
  | none => if noExc env then some env else none
def offFl (i : Option Nat) : Flow → Heap → R Flow
  | .nx env, h => match offEnv i env with
    | some env => rok (.nx env) h
    | none => none
  | .brk env, h => match offEnv i env with
    | some env => rok (.brk env) h
    | none => none
  | .cont env, h => match offEnv i env with
    | some env => rok (.cont env) h
    | none => none
  | .ret d, h => rok (.ret d) h
  | .exc _ _ _ _, _ => none
mutual
def evS : S → Env → Heap → R Flow
  | .asg tg e, env, h => R.bindS (evE F Γ e env h) env fun d h => match setTg tg d env with
    | some env => rok (.nx env) h
    | none => none
  | .par ts es, env, h => R.bindS (evEs F Γ es env h) env fun ds h => match setPar ts ds env with
    | some env => rok (.nx env) h
    | none => none
  | .frz i, env, h => match env[i]? with
    | some (.own d) => rok (.nx (env.set i (.val d))) h
    | _ => none
  | .aug i o e, env, h => match Sl.get env[i]? with
    | some x => R.bindS (evE F Γ e env h) env fun y h => R.bind (lift h (augOp o x y)) fun z h => rok (.nx (env.set i (.val z))) h
    | none => none
  | .app i e, env, h => if isOL env[i]? then R.bindS (evE F Γ e env h) env fun d h => match env[i]? with
    | some (.own (.lst xs)) => if xs.length < LIM then rok (.nx (env.set i (.own (.lst (xs ++ [d]))))) h else none
    | _ => none
    else none
  | .boxApp b e, env, h => R.bindS (evE F Γ b env h) env fun x h => if isL h x then R.bindS (evE F Γ e env h) env fun d h => match x with
    | .ref k => match h[k]? with
      | some (.lst xs) => if xs.length < LIM then rok (.nx env) (h.set k (.lst (xs ++ [d]))) else none
      | _ => none
    | _ => none
    else none
  | .boxSet b i e, env, h => R.bindS (evE F Γ e env h) env fun d h => R.bindS (evE F Γ b env h) env fun x h => R.bindS (evE F Γ i env h) env fun j h => match x, j with
    | .ref k, .int j => match h[k]? with
      | some (.lst xs) => match ixN xs.length j with
        | some j => rok (.nx env) (h.set k (.lst (xs.set j d)))
        | none => none
      | _ => none
    | _, _ => none
  | .setO i j e, env, h => if isOL env[i]? then R.bindS (evE F Γ e env h) env fun d h => R.bindS (evE F Γ j env h) env fun k h => match env[i]?, k with
    | some (.own (.lst xs)), .int k => match ixN xs.length k with
      | some n => rok (.nx (env.set i (.own (.lst (xs.set n d))))) h
      | none => none
    | _, _ => none
    else none
  | .setF b cs f e, env, h => R.bindS (evE F Γ e env h) env fun d h => R.bindS (evE F Γ b env h) env fun x h => match x with
    | .ref k => match h[k]? with
      | some (.obj c ns ds) => if cs.contains c && decide (ns.length < 900) then rok (.nx env) (h.set k (.obj c (putD f d ns ds).1 (putD f d ns ds).2)) else none
      | _ => none
    | _ => none
  | .ex e, env, h => R.bindS (evE F Γ e env h) env fun _ h => rok (.nx env) h
  | .ifs t a b, env, h => R.bindS (evE F Γ t env h) env fun x h => match x with
    | .bl true => evSs a env h
    | .bl false => evSs b env h
    | _ => none
  | .whil t b, env, h => loopW (fun env h => match evE F Γ t env h with
    | some (.ok (.bl true) h) => R.bind (evSs b env h) fun fl h => match fl with
      | .nx env => rok (.inl env) h
      | .cont env => rok (.inl env) h
      | .brk env => rok (.inr (.nx env)) h
      | .ret d => rok (.inr (.ret d)) h
      | .exc env c ns fs => rok (.inr (.exc env c ns fs)) h
    | some (.ok (.bl false) h) => rok (.inr (.nx env)) h
    | some (.err c ns fs h) => rok (.inr (.exc env c ns fs)) h
    | _ => none) env h
  | .for tg it b, env, h => R.bindS (evE F Γ it env h) env fun s h => match walk? s with
    | some xs => forLoop (fun x env h => match setTg tg x env with
        | some env => evSs b env h
        | none => none) xs env h
    | none => none
  | .ret e, env, h => R.bindS (evE F Γ e env h) env fun d h => rok (.ret d) h
  | .brk, env, h => rok (.brk env) h
  | .cont, env, h => rok (.cont env) h
  | .pass, env, h => rok (.nx env) h
  | .raise c ns es, env, h => R.bindS (evEs F Γ es env h) env fun ds h => if ns.length = ds.length then rok (.exc env c ns ds.reverse) h else none
  | .tryy b hs, env, h => R.bind (evSs b env h) fun fl h => match fl with
    | .exc env c ns fs => if noExc env then evHs hs c ns fs env h else none
    | fl => rok fl h
def evSs : List S → Env → Heap → R Flow
  | [], env, h => rok (.nx env) h
  | s :: ss, env, h => R.bind (evS s env h) fun fl h => match fl with
    | .nx env => evSs ss env h
    | fl => rok fl h
def evHs : Hs → Nat → List Str → List D → Env → Heap → R Flow
  | .nil, c, ns, fs, env, h => rok (.exc env c ns fs) h
  | .cons cs no i b r, c, ns, fs, env, h => match among cs no c with
    | some true => (match onEnv i c ns fs env with
      | some env => R.bind (evSs b env h) (offFl i)
      | none => none)
    | some false => evHs r c ns fs env h
    | none => none
end
/-- a def: how many slots, the parameters' modes (true: a list comes as a borrowed one), the body -/
structure Fn where
  slots : Nat
  modes : List Bool
  body : List S
def param (m : Bool) (d : D) : Sl := match m, d with
  | true, .lst xs => .bor (.lst xs)
  | true, .obj _ _ _ => .none
  | _, d => .val d
def startEnv (f : Fn) (ds : List D) : Env := List.zipWith param f.modes ds ++ List.replicate (f.slots - ds.length) Sl.none
def fnEnd : Flow → Heap → R D
  | .nx _, h => rok .non h
  | .ret d, h => rok d h
  | .exc _ c ns fs, h => some (.err c ns fs h)
  | _, _ => none
def evFn (f : Fn) (ds : List D) (h : Heap) : R D :=
  if ds.length = f.modes.length then R.bind (calmly (evSs F Γ f.body (startEnv f ds) h)) fnEnd else none
/-- a def that gets a lambda -/
def evFnA (f : Fn) (act : Heap → R D) (h : Heap) : R D :=
  R.bind (calmly (evSs F { Γ with act := act } f.body (List.replicate f.slots Sl.none) h)) fnEnd
end
def tab (L : List (List D → Heap → R D)) : Gm := ⟨fun n => L.getD n fun _ _ => none, fun _ _ _ => none, fun _ => none⟩
def tabA (L : List (List D → Heap → R D)) (A : List ((Heap → R D) → Heap → R D)) : Gm := ⟨fun n => L.getD n fun _ _ => none, fun n => A.getD n fun _ _ => none, fun _ => none⟩
end Ev
end

section
set_option Elab.async false
set_option linter.all false
set_option maxRecDepth 100000
namespace Ev
open PySem L2

/-- the tables of code objects that the program writes as it runs; where the classes stand -/
class TabList where
  T : List (Addr × Str)
  cls : Nat → Addr
variable [TabList]
/-- no table of code objects -/
def NT (o : HO) : Prop := ∀ ps, o ≠ .tbl ps
/-- what a value may be -/
def Dat : HO → Prop
  | .lst _ | .ins _ _ _ | .set _ _ | .dK _ | .dT _ => True
  | _ => False
theorem Dat.nt {o : HO} (h : Dat o) : NT o := fun ps e => by
  subst e
  exact h
theorem Dat.ntup {o : HO} (h : Dat o) {xs : List V} : o ≠ .tup xs := fun e => by
  subst e
  exact h
theorem Dat.nfrz {o : HO} (h : Dat o) {b : Obj} {u : HO} : o ≠ .frz b u := fun e => by
  subst e
  exact h
/-! ### what a value of the evaluator stands for -/
section
variable (K : PySem.W.Frag) (Fb : Addr → Prop) (m : List Addr) (H : Hp)
mutual
inductive Rep : V → D → Prop
  | non : Rep .non .non
  | bl (b : Bool) : Rep (.bl b) (.bl b)
  | int (i : Int) : Rep (.int i) (.int i)
  | str (s : Str) : Rep (.str s) (.str s)
  | tup {a : Addr} {vs : List V} {ds : List D} : SqT K H a vs → RepL vs ds → Rep (.ref a) (.tup ds)
  | lst {a : Addr} {vs : List V} {ds : List D} : H a = some (.lst vs) → ¬ Fb a → RepL vs ds → Rep (.ref a) (.lst ds)
  | obj {a dx : Addr} {c : Nat} {ns : List Str} {vs : List V} {ds : List D} : H a = some (.ins (TabList.cls c) dx (ns.zip vs)) → ¬ Fb a → vs.length = ns.length → RepL vs ds → Rep (.ref a) (.obj c ns ds)
  | ref {a : Addr} {k : Nat} : m[k]? = some a → Rep (.ref a) (.ref k)
inductive RepL : List V → List D → Prop
  | nil : RepL [] []
  | cons {v : V} {vs : List V} {d : D} {ds : List D} : Rep v d → RepL vs ds → RepL (v :: vs) (d :: ds)
end
/-- .. as it is seen for a moment: the outermost list may be one that changes -/
inductive RepV : V → D → Prop
  | of {v : V} {d : D} : Rep K Fb m H v d → RepV v d
  | lst {a : Addr} {vs : List V} {ds : List D} : SqL K H a vs → RepL K Fb m H vs ds → RepV (.ref a) (.lst ds)
  | obj {a dx : Addr} {c : Nat} {ns : List Str} {vs : List V} {ds : List D} : H a = some (.ins (TabList.cls c) dx (ns.zip vs)) → vs.length = ns.length → RepL K Fb m H vs ds → RepV (.ref a) (.obj c ns ds)
end
section
variable {K : PySem.W.Frag} {Fb Fb' : Addr → Prop} {m m' : List Addr} {H H' : Hp}
theorem RepL.length : ∀ {vs : List V} {ds : List D}, RepL K Fb m H vs ds → vs.length = ds.length
  | _, _, .nil => rfl
  | _, _, .cons _ r => congrArg (· + 1) (RepL.length r)
mutual
theorem Rep.move (hT : ∀ a vs, SqT K H a vs → SqT K H' a vs) (hL : ∀ a o, H a = some o → Dat o → ¬ Fb a → H' a = some o ∧ ¬ Fb' a) (hm : ∀ (k : Nat) (a : Addr), m[k]? = some a → m'[k]? = some a) :
    ∀ {v : V} {d : D}, Rep K Fb m H v d → Rep K Fb' m' H' v d
  | _, _, .non => .non
  | _, _, .bl b => .bl b
  | _, _, .int b => .int b
  | _, _, .str b => .str b
  | _, _, .tup h r => .tup (hT _ _ h) (RepL.move hT hL hm r)
  | _, _, .lst h n r => .lst (hL _ _ h trivial n).1 (hL _ _ h trivial n).2 (RepL.move hT hL hm r)
  | _, _, .obj h n l r => .obj (hL _ _ h trivial n).1 (hL _ _ h trivial n).2 l (RepL.move hT hL hm r)
  | _, _, .ref h => .ref (hm _ _ h)
theorem RepL.move (hT : ∀ a vs, SqT K H a vs → SqT K H' a vs) (hL : ∀ a o, H a = some o → Dat o → ¬ Fb a → H' a = some o ∧ ¬ Fb' a) (hm : ∀ (k : Nat) (a : Addr), m[k]? = some a → m'[k]? = some a) :
    ∀ {vs : List V} {ds : List D}, RepL K Fb m H vs ds → RepL K Fb' m' H' vs ds
  | _, _, .nil => .nil
  | _, _, .cons h r => .cons (Rep.move hT hL hm h) (RepL.move hT hL hm r)
end
abbrev Ext (H H' : Hp) : Prop := Evl.Ex H H'
theorem Rep.ext (e : Ext H H') {v : V} {d : D} (r : Rep K Fb m H v d) : Rep K Fb m H' v d := r.move (fun _ _ h => Evl.ex_t e h) (fun a _ h _ n => ⟨e a _ h, n⟩) fun _ _ h => h
theorem RepL.ext (e : Ext H H') {v : List V} {d : List D} (r : RepL K Fb m H v d) : RepL K Fb m H' v d := r.move (fun _ _ h => Evl.ex_t e h) (fun a _ h _ n => ⟨e a _ h, n⟩) fun _ _ h => h
theorem RepV.ext (e : Ext H H') {v : V} {d : D} (r : RepV K Fb m H v d) : RepV K Fb m H' v d := by
  cases r with
  | of r => exact .of (r.ext e)
  | lst h r => exact .lst (Evl.ex_l e h) (r.ext e)
  | obj h l r => exact .obj (e _ _ h) l (r.ext e)
theorem RepL.get : ∀ {vs : List V} {ds : List D} {i : Nat} {d : D}, RepL K Fb m H vs ds → ds[i]? = some d → ∃ v, vs[i]? = some v ∧ Rep K Fb m H v d
  | _, _, _, _, .nil, e0 => by simp at e0
  | _, _, 0, _, .cons r _, e => ⟨_, rfl, by simp at e; subst e; exact r⟩
  | _, _, i + 1, _, .cons _ t, e => by
    obtain ⟨v, h1, h2⟩ := RepL.get (i := i) t (by simpa using e)
    exact ⟨v, by simpa using h1, h2⟩
theorem RepL.getV : ∀ {vs : List V} {ds : List D} {i : Nat} {v : V}, RepL K Fb m H vs ds → vs[i]? = some v → ∃ d, ds[i]? = some d ∧ Rep K Fb m H v d
  | _, _, _, _, .nil, e0 => by simp at e0
  | _, _, 0, _, .cons r _, e => ⟨_, rfl, by simp at e; subst e; exact r⟩
  | _, _, i + 1, _, .cons _ t, e => by
    obtain ⟨v, h1, h2⟩ := RepL.getV (i := i) t (by simpa using e)
    exact ⟨v, by simpa using h1, h2⟩
theorem RepL.append : ∀ {vs ws : List V} {ds es : List D}, RepL K Fb m H vs ds → RepL K Fb m H ws es → RepL K Fb m H (vs ++ ws) (ds ++ es)
  | _, _, _, _, .nil, s => s
  | _, _, _, _, .cons h r, s => .cons h (RepL.append r s)
theorem RepL.take : ∀ {vs : List V} {ds : List D} (n : Nat), RepL K Fb m H vs ds → RepL K Fb m H (vs.take n) (ds.take n)
  | _, _, 0, _ => .nil
  | _, _, _ + 1, .nil => .nil
  | _, _, n + 1, .cons h r => .cons h (RepL.take n r)
theorem RepL.drop : ∀ {vs : List V} {ds : List D} (n : Nat), RepL K Fb m H vs ds → RepL K Fb m H (vs.drop n) (ds.drop n)
  | _, _, 0, r => r
  | _, _, _ + 1, .nil => .nil
  | _, _, n + 1, .cons _ r => RepL.drop n r
theorem RepL.reverse {vs : List V} {ds : List D} (h : RepL K Fb m H vs ds) : RepL K Fb m H vs.reverse ds.reverse := by
  induction ds generalizing vs with
  | nil => cases h; exact .nil
  | cons d ds ih =>
    cases h with
    | cons h r =>
      rw [List.reverse_cons,
      List.reverse_cons]
      exact (ih r).append (.cons h .nil)
theorem RepL.rep {vs : List V} {ds : List D} (h : RepL K Fb m H vs ds) : ∀ n : Nat, RepL K Fb m H (List.replicate n vs).flatten (List.replicate n ds).flatten
  | 0 => .nil
  | n + 1 => by
    rw [List.replicate_succ, List.flatten_cons, List.replicate_succ, List.flatten_cons]
    exact h.append (RepL.rep h n)
theorem RepL.set : ∀ {vs : List V} {ds : List D} {v : V} {d : D} (n : Nat), RepL K Fb m H vs ds → Rep K Fb m H v d → RepL K Fb m H (vs.set n v) (ds.set n d)
  | _, _, _, _, _, .nil, _ => .nil
  | _, _, _, _, 0, .cons _ r, q => .cons q r
  | _, _, _, _, n + 1, .cons h r, q => .cons h (RepL.set n r q)
theorem RepL.cut {vs : List V} {ds : List D} (h : RepL K Fb m H vs ds) (lo hi : Option Int) : RepL K Fb m H (cutV vs lo hi) (cut ds lo hi) := by
  have e : ∀ n d o, HT.sIx n d o = sIx n d o := fun n d o => by cases o <;> rfl
  unfold cutV Ev.cut
  rw [e, e, h.length]
  exact (h.drop _).take _
theorem RepL.dropLast {vs : List V} {ds : List D} (h : RepL K Fb m H vs ds) : RepL K Fb m H vs.dropLast ds.dropLast := by
  rw [List.dropLast_eq_take, List.dropLast_eq_take, h.length]
  exact h.take _
end

/-! ### as data of the library -/
mutual
def D.py : D → PyData
  | .non => .none
  | .bl b => .bool b
  | .int i => .int i
  | .str s => .str s
  | .tup xs => .tuple (D.pys xs)
  | .lst xs => .list (D.pys xs)
  | .obj _ _ _ | .ref _ => .none
def D.pys : List D → List PyData
  | [] => []
  | x :: xs => D.py x :: D.pys xs
end
mutual
theorem py_plain : ∀ d : D, (D.py d).plain = true
  | .non | .bl _ | .int _ | .str _ | .obj _ _ _ | .ref _ => rfl
  | .tup xs => pys_plain xs
  | .lst xs => pys_plain xs
theorem pys_plain : ∀ ds : List D, PyData.plainAll (D.pys ds) = true
  | [] => rfl
  | x :: xs => by
    rw [D.pys, PyData.plainAll, py_plain x, pys_plain xs]
    rfl
end
mutual
theorem py_depth : ∀ d : D, (D.py d).depth = D.depth d
  | .non | .bl _ | .int _ | .str _ | .obj _ _ _ | .ref _ => rfl
  | .tup xs => congrArg (· + 1) (pys_depth xs)
  | .lst xs => congrArg (· + 1) (pys_depth xs)
theorem pys_depth : ∀ ds : List D, PyData.depthAll (D.pys ds) = D.depths ds
  | [] => rfl
  | x :: xs => by
    rw [D.pys, PyData.depthAll, D.depths, py_depth x, pys_depth xs]
end
mutual
theorem py_eqv : ∀ d e : D, d.plain = true → e.plain = true → PyData.eqv (D.py d) (D.py e) = D.eqv d e
  | .non, .non, _, _ => rfl
  | .non, .bl _, _, _ => rfl
  | .non, .int _, _, _ => rfl
  | .non, .str _, _, _ => rfl
  | .non, .tup _, _, _ => rfl
  | .non, .lst _, _, _ => rfl
  | .bl _, e, _, _ => by cases e <;> rfl
  | .int _, e, _, _ => by cases e <;> rfl
  | .str _, e, _, _ => by cases e <;> rfl
  | .tup xs, .tup ys, h1, h2 => pys_eqv xs ys h1 h2
  | .lst xs, .lst ys, h1, h2 => pys_eqv xs ys h1 h2
  | .tup xs, .non, _, _ => rfl
  | .tup xs, .bl _, _, _ => rfl
  | .tup xs, .int _, _, _ => rfl
  | .tup xs, .str _, _, _ => rfl
  | .tup xs, .lst _, _, _ => rfl
  | .lst xs, .non, _, _ => rfl
  | .lst xs, .bl _, _, _ => rfl
  | .lst xs, .int _, _, _ => rfl
  | .lst xs, .str _, _, _ => rfl
  | .lst xs, .tup _, _, _ => rfl
theorem pys_eqv : ∀ ds es : List D, D.plains ds = true → D.plains es = true → PyData.eqvAll (D.pys ds) (D.pys es) = D.eqvs ds es
  | [], [], _, _ => rfl
  | [], _ :: _, _, _ => rfl
  | _ :: _, [], _, _ => rfl
  | x :: xs, y :: ys, h1, h2 => by
    have a := Bool.and_eq_true_iff.mp h1
    have b := Bool.and_eq_true_iff.mp h2
    rw [D.pys, D.pys, PyData.eqvAll, D.eqvs, py_eqv x y a.1 b.1, pys_eqv xs ys a.2 b.2]
end
section
variable {K : PySem.W.Frag} {Fb : Addr → Prop} {m : List Addr} {H : Hp}
mutual
theorem Rep.dp : ∀ {v : V} {d : D}, Rep K Fb m H v d → d.plain = true → Dp K H v (D.py d)
  | _, _, .non, _ => .non
  | _, _, .bl b, _ => .bl b
  | _, _, .int b, _ => .int b
  | _, _, .str b, _ => .str b
  | _, _, .tup h r, p => .tup h (RepL.dp r p)
  | _, _, .lst h _ r, p => .lst (.inl (.inl h)) (RepL.dp r p)
  | _, _, .obj _ _ _ _, p => nomatch p
  | _, _, .ref _, p => nomatch p
theorem RepL.dp : ∀ {v : List V} {d : List D}, RepL K Fb m H v d → D.plains d = true → DpAll K H v (D.pys d)
  | _, _, .nil, _ => .nil
  | _, _, .cons h r, p => .cons (Rep.dp h (Bool.and_eq_true_iff.mp p).1) (RepL.dp r (Bool.and_eq_true_iff.mp p).2)
end
theorem RepV.dp {v : V} {d : D} (r : RepV K Fb m H v d) (p : d.plain = true) : Dp K H v (D.py d) := by
  cases r with
  | of r => exact r.dp p
  | lst h r => exact .lst h (r.dp p)
  | obj _ _ _ => cases p
end
end Ev
end

section
set_option Elab.async false
set_option linter.all false
set_option maxRecDepth 100000
namespace Ev
variable [TabList]
open PySem L2

/-- what an operation of two values asks: what the evaluator's says -/
def rO2 (K : PySem.W.Frag) (o : Op2) : R2 := fun x y H Q => ∃ (Fb : Addr → Prop) (m : List Addr) (d e r : D), (∀ a, Fb a → H a ≠ none) ∧ RepV K Fb m H x d ∧ RepV K Fb m H y e ∧ o2 o d e = some r ∧
  ∀ v H', Ext H H' → Rep K Fb m H' v r → Q v H'
def rO1 (K : PySem.W.Frag) (F : ReprF) (o : Op1) : V → Hp → VK → Prop := fun x H Q => ∃ (Fb : Addr → Prop) (m : List Addr) (d r : D), (∀ a, Fb a → H a ≠ none) ∧ RepV K Fb m H x d ∧ o1 F o d = some r ∧
  ∀ v H', Ext H H' → Rep K Fb m H' v r → Q v H'
theorem LIM_eq : LIM = sizeLine := by rw [sizeLine_eq]; rfl
section
variable {K : PySem.W.Frag} {Fb : Addr → Prop} {m : List Addr} {H : Hp} {v : V}
theorem RepV.int_inv {i : Int} (h : RepV K Fb m H v (.int i)) : v = .int i := by
  cases h with
  | of h => cases h; rfl
theorem RepV.bl_inv {i : Bool} (h : RepV K Fb m H v (.bl i)) : v = .bl i := by
  cases h with
  | of h => cases h; rfl
theorem RepV.str_inv {i : Str} (h : RepV K Fb m H v (.str i)) : v = .str i := by
  cases h with
  | of h => cases h; rfl
theorem RepV.non_inv (h : RepV K Fb m H v .non) : v = .non := by
  cases h with
  | of h => cases h; rfl
theorem RepV.tup_inv {ds : List D} (h : RepV K Fb m H v (.tup ds)) : ∃ a vs, v = .ref a ∧ SqT K H a vs ∧ RepL K Fb m H vs ds := by
  cases h with
  | of h => cases h with
    | tup a b => exact ⟨_, _, rfl, a, b⟩
theorem RepV.lst_inv {ds : List D} (h : RepV K Fb m H v (.lst ds)) : ∃ a vs, v = .ref a ∧ SqL K H a vs ∧ RepL K Fb m H vs ds := by
  cases h with
  | of h => cases h with
    | lst a _ b => exact ⟨_, _, rfl, .inl (.inl a), b⟩
  | lst a b => exact ⟨_, _, rfl, a, b⟩
theorem rep_new_lst {p : Addr} {vs : List V} {ds : List D} (hf : ∀ a, Fb a → H a ≠ none) (hp : H p = none) (r : RepL K Fb m H vs ds) : Rep K Fb m (upd H p (.lst vs)) (.ref p) (.lst ds) :=
  .lst upd_same (fun h => hf p h hp) (r.ext (Evl.Ex.new hp))
theorem rep_new_tup {p : Addr} {vs : List V} {ds : List D} (hp : H p = none) (r : RepL K Fb m H vs ds) : Rep K Fb m (upd H p (.tup vs)) (.ref p) (.tup ds) :=
  .tup (.inl (.inl upd_same)) (r.ext (Evl.Ex.new hp))
end
section
variable {X : Cx}
theorem cat_lists {pins : List (Addr × Obj)} {σ : St} {H : Hp} {s : Shared} {a b : Addr} {vs ws : List V} {v u : Value} {Q : VK} (I : Inv X pins σ H s) (rx : RelV (.ref a) v) (ry : RelV (.ref b) u)
    (hv : SqL X.K H a vs) (hw : SqL X.K H b ws) (hz : vs.length + ws.length ≤ sizeLine) (q : ∀ p, H p = none → Q (.ref p) (upd H p (.lst (vs ++ ws)))) :
    wpAny (model X.prog X.w) X.A (binaryOp .Add v u) (EP X pins σ Q) X.xe s := by
  cases rx
  cases ry
  obtain ⟨i1, r1, ⟨⟨c1, e1, t1, l1⟩, n1, g1, hc1, hd1, hs1⟩, _⟩ := I.list hv
  obtain ⟨i2, r2, ⟨⟨c2, e2, t2, l2⟩, n2, g2, hc2, hd2, hs2⟩, _⟩ := I.list hw
  simp only at hc1 hd1 hs1 hc2 hd2 hs2
  subst hc1 hd1 hs1 hc2 hd2 hs2
  have ea : i1.toArray ++ i2.toArray = (i1 ++ i2).toArray := by simp
  refine PySem.concat_meets ⟨_, g1, rfl⟩ ⟨_, g2, rfl⟩ PySem.noFill_list_add PySem.seq_list_add PySem.F.slot_list_add PySem.F.entry_list_add (PySem.F.args_list_add_2 _ _)
    (PyProof.Rows.list_addW a b i1.toArray i2.toArray n1 n2 none none l1 l2 (by rw [List.size_toArray, List.size_toArray, ← r1.length, ← r2.length]; exact hz)) ⟨g1, g2, ?_⟩
  rw [ea]
  exact ⟨.ref _, _, I.lnew (t' := s.toks) (r1.append r2) (by rw [List.length_append]; exact hz), rfl, q _ I.fresh⟩
theorem ro_add : OpR X (binaryOp .Add) (rO2 X.K .add) := by
  rintro pins s σ H x y v u Q I rx ry ⟨Fb, m, d, e, r, hf, hx, hy, ho, q⟩
  cases d <;> cases e <;> simp only [o2, reduceCtorEq, Option.some.injEq, Option.ite_none_right_eq_some] at ho
  · subst ho
    obtain rfl := hx.int_inv
    obtain rfl := hy.int_inv
    exact op_add pins s σ H _ _ v u Q I rx ry ⟨_, _, rfl, rfl, q _ _ (Evl.Ex.refl _) (.int _)⟩
  · obtain ⟨hl, rfl⟩ := ho
    obtain rfl := hx.str_inv
    obtain rfl := hy.str_inv
    exact op_add_str pins s σ H _ _ v u Q I rx ry ⟨_, _, rfl, rfl, by rw [← LIM_eq]; exact hl, q _ _ (Evl.Ex.refl _) (.str _)⟩
  · obtain ⟨hl, rfl⟩ := ho
    obtain ⟨a, vs, rfl, hv, rv⟩ := hx.tup_inv
    obtain ⟨b, ws, rfl, hw, rw'⟩ := hy.tup_inv
    refine op_catA pins s σ H _ _ v u Q I rx ry ⟨a, b, vs, ws, rfl, rfl, hv, hw, by rw [rv.length, rw'.length, ← LIM_eq]; exact hl, fun e => ?_, fun _ e => ?_, fun _ _ p hp => ?_⟩
    · subst e
      cases rv
      exact q _ _ (Evl.Ex.refl _) (.tup hw rw')
    · subst e
      cases rw'
      rw [List.append_nil] at q
      exact q _ _ (Evl.Ex.refl _) (.tup hv rv)
    · exact q _ _ (Evl.Ex.new hp) (rep_new_tup hp (rv.append rw'))
  · obtain ⟨hl, rfl⟩ := ho
    obtain ⟨a, vs, rfl, hv, rv⟩ := hx.lst_inv
    obtain ⟨b, ws, rfl, hw, rw'⟩ := hy.lst_inv
    exact cat_lists I rx ry hv hw (by rw [rv.length, rw'.length, ← LIM_eq]; exact hl) fun p hp => q _ _ (Evl.Ex.new hp) (rep_new_lst hf hp (rv.append rw'))

theorem ro_ints {f : Value → Value → Sem Value} {o : Op2} {C : Int → Int → Prop} {g : Int → Int → V} {G : Int → Int → D} (base : OpR X f (rI C g))
    (ho : ∀ d e r, o2 o d e = some r → ∃ i j, d = .int i ∧ e = .int j ∧ C i j ∧ r = G i j) (hg : ∀ (Fb : Addr → Prop) (m : List Addr) (H : Hp) i j, Rep X.K Fb m H (g i j) (G i j)) : OpR X f (rO2 X.K o) := by
  rintro pins s σ H x y v u Q I rx ry ⟨Fb, m, d, e, r, hf, hx, hy, h, q⟩
  obtain ⟨i, j, rfl, rfl, hc, rfl⟩ := ho _ _ _ h
  obtain rfl := hx.int_inv
  obtain rfl := hy.int_inv
  exact base pins s σ H _ _ v u Q I rx ry ⟨i, j, rfl, rfl, hc, q _ _ (Evl.Ex.refl _) (hg _ _ _ _ _)⟩
theorem rI_of {f : Value → Value → Sem Value} {g : Int → Int → V} (h : OpR X f (rI0 g)) : OpR X f (rI (fun _ _ => True) g) := by
  rintro pins s σ H x y v u Q I rx ry ⟨i, j, h1, h2, _, q⟩
  exact h pins s σ H x y v u Q I rx ry ⟨i, j, h1, h2, q⟩
theorem ro_sub : OpR X (binaryOp .Sub) (rO2 X.K .sub) :=
  ro_ints (G := fun i j => .int (i - j)) (rI_of op_sub) (fun d e r h => by
    cases d <;> cases e <;> simp only [o2, reduceCtorEq, Option.some.injEq] at h
    exact ⟨_, _, rfl, rfl, trivial, h.symm⟩) fun _ _ _ _ _ => .int _
/-- any divisor but zero -/
theorem fdiv_any : OpR X (binaryOp .FloorDiv) (rI (fun _ j => j ≠ 0 ∧ j.natAbs.log2 < 9000) fun i j => .int (i.fdiv j)) := opI fun _ _ _ _ _ _ _ hc q => PyProof.Rows.floordiv_int hc.1 q (.inl (PyProof.noPylong_of_log2 hc.2))
theorem fdiv_form (i j : Int) (h : j ≠ 0) : (if 0 < j then i / j else i.fdiv j) = i.fdiv j := by
  split
  · rename_i k
    exact (Int.fdiv_eq_ediv_of_nonneg i (by omega)).symm
  · rfl
theorem ro_fdiv : OpR X (binaryOp .FloorDiv) (rO2 X.K .fdiv) :=
  ro_ints (G := fun i j => .int (i.fdiv j)) fdiv_any (fun d e r h => by
    cases d <;> cases e <;> simp only [o2, reduceCtorEq, Option.some.injEq, Option.ite_none_right_eq_some, Bool.and_eq_true, decide_eq_true_eq] at h
    refine ⟨_, _, rfl, rfl, ⟨h.1.1, h.1.2⟩, ?_⟩
    rw [← h.2, fdiv_form _ _ h.1.1]) fun _ _ _ _ _ => .int _
theorem ro_mod : OpR X (binaryOp .Mod) (rO2 X.K .mod) :=
  ro_ints (G := fun i j => .int (i % j)) op_mod (fun d e r h => by
    cases d <;> cases e <;> simp only [o2, reduceCtorEq, Option.some.injEq, Option.ite_none_right_eq_some, Bool.and_eq_true, decide_eq_true_eq] at h
    exact ⟨_, _, rfl, rfl, h.1, h.2.symm⟩) fun _ _ _ _ _ => .int _
theorem ro_pow : OpR X (binaryOp .Pow) (rO2 X.K .pow) :=
  ro_ints (G := fun i j => .int (i ^ j.toNat)) op_pow (fun d e r h => by
    cases d <;> cases e <;> simp only [o2, reduceCtorEq, Option.some.injEq, Option.ite_none_right_eq_some, Bool.and_eq_true, decide_eq_true_eq] at h
    exact ⟨_, _, rfl, rfl, ⟨h.1.1.1, h.1.1.2, h.1.2⟩, h.2.symm⟩) fun _ _ _ _ _ => .int _
/-! comparisons of ints and of texts -/
theorem ro_lt : OpR X (compareOp .Lt) (rO2 X.K .lt) := by
  rintro pins s σ H x y v u Q I rx ry ⟨Fb, m, d, e, r, hf, hx, hy, ho, q⟩
  cases d <;> cases e <;> simp only [o2, reduceCtorEq, Option.some.injEq] at ho
  · subst ho
    obtain rfl := hx.int_inv
    obtain rfl := hy.int_inv
    exact op_lt pins s σ H _ _ v u Q I rx ry ⟨_, _, rfl, rfl, q _ _ (Evl.Ex.refl _) (.bl _)⟩
  · subst ho
    obtain rfl := hx.str_inv
    obtain rfl := hy.str_inv
    exact op_lt_str pins s σ H _ _ v u Q I rx ry ⟨_, _, rfl, rfl, q _ _ (Evl.Ex.refl _) (.bl _)⟩
theorem ro_le : OpR X (compareOp .LtE) (rO2 X.K .le) := by
  rintro pins s σ H x y v u Q I rx ry ⟨Fb, m, d, e, r, hf, hx, hy, ho, q⟩
  cases d <;> cases e <;> simp only [o2, reduceCtorEq, Option.some.injEq] at ho
  · subst ho
    obtain rfl := hx.int_inv
    obtain rfl := hy.int_inv
    exact op_le pins s σ H _ _ v u Q I rx ry ⟨_, _, rfl, rfl, q _ _ (Evl.Ex.refl _) (.bl _)⟩
  · subst ho
    obtain rfl := hx.str_inv
    obtain rfl := hy.str_inv
    exact op_le_str pins s σ H _ _ v u Q I rx ry ⟨_, _, rfl, rfl, q _ _ (Evl.Ex.refl _) (.bl _)⟩
theorem ro_gt : OpR X (compareOp .Gt) (rO2 X.K .gt) :=
  ro_ints (G := fun i j => .bl (decide (j < i))) (rI_of op_gt) (fun d e r h => by
    cases d <;> cases e <;> simp only [o2, reduceCtorEq, Option.some.injEq] at h
    exact ⟨_, _, rfl, rfl, trivial, h.symm⟩) fun _ _ _ _ _ => .bl _
theorem ro_ge : OpR X (compareOp .GtE) (rO2 X.K .ge) :=
  ro_ints (G := fun i j => .bl (decide (j ≤ i))) (rI_of op_ge) (fun d e r h => by
    cases d <;> cases e <;> simp only [o2, reduceCtorEq, Option.some.injEq] at h
    exact ⟨_, _, rfl, rfl, trivial, h.symm⟩) fun _ _ _ _ _ => .bl _
/-! == and !=, in and not in -/
theorem ro_eq (hu : X.A.units + 66 < cLine) : OpR X (compareOp .Eq) (rO2 X.K .eq) := by
  rintro pins s σ H x y v u Q I rx ry ⟨Fb, m, d, e, r, hf, hx, hy, ho, q⟩
  simp only [o2, Option.ite_none_right_eq_some, Option.some.injEq, cmpOk, Bool.and_eq_true, decide_eq_true_eq] at ho
  obtain ⟨⟨⟨pd, pe⟩, hm⟩, rfl⟩ := ho
  obtain ⟨as, r1⟩ := Dp.reads I _ x v (hx.dp pd) rx
  obtain ⟨bs, r2⟩ := Dp.reads I _ y u (hy.dp pe) ry
  refine PySem.SeqAt.eq_plain r1 r2 (py_plain d) (py_plain e) (by rw [py_depth, py_depth]; omega) (fin_bl I (k := D.eqv d e) (q _ _ (Evl.Ex.refl _) (.bl _)) ?_)
  rw [py_eqv d e pd pe]
theorem ro_ne (hu : X.A.units + 66 < cLine) : OpR X (compareOp .NotEq) (rO2 X.K .ne) := by
  rintro pins s σ H x y v u Q I rx ry ⟨Fb, m, d, e, r, hf, hx, hy, ho, q⟩
  simp only [o2, Option.ite_none_right_eq_some, Option.some.injEq, cmpOk, Bool.and_eq_true, decide_eq_true_eq] at ho
  obtain ⟨⟨⟨pd, pe⟩, hm⟩, rfl⟩ := ho
  obtain ⟨as, r1⟩ := Dp.reads I _ x v (hx.dp pd) rx
  obtain ⟨bs, r2⟩ := Dp.reads I _ y u (hy.dp pe) ry
  refine PySem.SeqAt.ne_plain r1 r2 (py_plain d) (py_plain e) (by rw [py_depth, py_depth]; omega) (fin_bl I (k := !D.eqv d e) (q _ _ (Evl.Ex.refl _) (.bl _)) ?_)
  rw [py_eqv d e pd pe]
theorem pys_any (d : D) (hd : d.plain = true) : ∀ ys : List D, D.plains ys = true → ((D.pys ys).any fun y => PyData.eqv y d.py) = ys.any fun y => D.eqv y d
  | [], _ => rfl
  | y :: ys, h => by
    have a := Bool.and_eq_true_iff.mp h
    rw [D.pys, List.any_cons, List.any_cons, py_eqv y d a.1 hd, pys_any d hd ys a.2]
theorem ro_in (hu : X.A.units + 66 < cLine) : OpR X (compareOp .In) (rO2 X.K .inn) := by
  rintro pins s σ H x y v u Q I rx ry ⟨Fb, m, d, e, r, hf, hx, hy, ho, q⟩
  have seq : ∀ ys : List D, d.plain = true → D.plains ys = true → (∃ as, Reads s.heap u (.list (D.pys ys)) as) ∨ (∃ as, Reads s.heap u (.tuple (D.pys ys)) as) → D.depth d ≤ 64 → r = .bl (ys.any fun y => D.eqv y d) →
      wpAny (model X.prog X.w) X.A (compareOp .In v u) (EP X pins σ Q) X.xe s := fun ys pd ps hr hd er => by
    subst er
    obtain ⟨bs, r2⟩ := Dp.reads I _ x v (hx.dp pd) rx
    have hroom : X.A.units + 1 + min (PyData.depthAll (D.pys ys)) (D.py d).depth < cLine := by rw [py_depth]; omega
    have fin : EP X pins σ Q (.bool ((D.pys ys).any fun y => PyData.eqv y d.py)) s := fin_bl I (q _ _ (Evl.Ex.refl _) (.bl _)) (by rw [pys_any d pd ys ps])
    rcases hr with ⟨as, r1⟩ | ⟨as, r1⟩
    · exact PySem.SeqAt.in_list_data r1 r2 (pys_plain ys) (py_plain d) hroom fin
    · exact PySem.SeqAt.in_tuple_data r1 r2 (pys_plain ys) (py_plain d) hroom fin
  cases e with
  | lst ys =>
    simp only [o2, Option.ite_none_right_eq_some, Option.some.injEq, Bool.and_eq_true, decide_eq_true_eq] at ho
    obtain ⟨⟨⟨pd, pe⟩, hm⟩, er⟩ := ho
    exact seq ys pd pe (.inl (Dp.reads I _ y u (hy.dp pe) ry)) hm er.symm
  | tup ys =>
    simp only [o2, Option.ite_none_right_eq_some, Option.some.injEq, Bool.and_eq_true, decide_eq_true_eq] at ho
    obtain ⟨⟨⟨pd, pe⟩, hm⟩, er⟩ := ho
    exact seq ys pd pe (.inr (Dp.reads I _ y u (hy.dp pe) ry)) hm er.symm
  | str b =>
    cases d <;> simp only [o2, reduceCtorEq, Option.some.injEq] at ho
    subst ho
    obtain rfl := hx.str_inv
    obtain rfl := hy.str_inv
    exact op_in_str pins s σ H _ _ v u Q I rx ry ⟨_, _, rfl, rfl, q _ _ (Evl.Ex.refl _) (.bl _)⟩
  | _ => cases d <;> simp [o2] at ho
theorem ro_nin (hu : X.A.units + 66 < cLine) : OpR X (compareOp .NotIn) (rO2 X.K .nin) := by
  rintro pins s σ H x y v u Q I rx ry ⟨Fb, m, d, e, r, hf, hx, hy, ho, q⟩
  have seq : ∀ ys : List D, d.plain = true → D.plains ys = true → (∃ as, Reads s.heap u (.list (D.pys ys)) as) ∨ (∃ as, Reads s.heap u (.tuple (D.pys ys)) as) → D.depth d ≤ 64 → r = .bl (!ys.any fun y => D.eqv y d) →
      wpAny (model X.prog X.w) X.A (compareOp .NotIn v u) (EP X pins σ Q) X.xe s := fun ys pd ps hr hd er => by
    subst er
    obtain ⟨bs, r2⟩ := Dp.reads I _ x v (hx.dp pd) rx
    have hroom : X.A.units + 1 + min (PyData.depthAll (D.pys ys)) (D.py d).depth < cLine := by rw [py_depth]; omega
    have fin : EP X pins σ Q (.bool (!(D.pys ys).any fun y => PyData.eqv y d.py)) s := fin_bl I (q _ _ (Evl.Ex.refl _) (.bl _)) (by rw [pys_any d pd ys ps])
    rcases hr with ⟨as, r1⟩ | ⟨as, r1⟩
    · exact PySem.SeqAt.notIn_list_data r1 r2 (pys_plain ys) (py_plain d) hroom fin
    · exact PySem.SeqAt.notIn_tuple_data r1 r2 (pys_plain ys) (py_plain d) hroom fin
  cases e with
  | lst ys =>
    simp only [o2, Option.ite_none_right_eq_some, Option.some.injEq, Bool.and_eq_true, decide_eq_true_eq] at ho
    obtain ⟨⟨⟨pd, pe⟩, hm⟩, er⟩ := ho
    exact seq ys pd pe (.inl (Dp.reads I _ y u (hy.dp pe) ry)) hm er.symm
  | tup ys =>
    simp only [o2, Option.ite_none_right_eq_some, Option.some.injEq, Bool.and_eq_true, decide_eq_true_eq] at ho
    obtain ⟨⟨⟨pd, pe⟩, hm⟩, er⟩ := ho
    exact seq ys pd pe (.inr (Dp.reads I _ y u (hy.dp pe) ry)) hm er.symm
  | str b =>
    cases d <;> simp only [o2, reduceCtorEq, Option.some.injEq] at ho
    subst ho
    obtain rfl := hx.str_inv
    obtain rfl := hy.str_inv
    exact op_notin_str pins s σ H _ _ v u Q I rx ry ⟨_, _, rfl, rfl, q _ _ (Evl.Ex.refl _) (.bl _)⟩
  | _ => cases d <;> simp [o2] at ho
theorem rep_isN {Fb : Addr → Prop} {m : List Addr} {H : Hp} {x : V} {d : D} (h : RepV X.K Fb m H x d) : decide (x = .non) = d.isNon := by
  cases h with
  | of h => cases h <;> simp [D.isNon]
  | lst _ _ => simp [D.isNon]
  | obj _ _ _ => simp [D.isNon]
theorem is_cases {o : Op2} (h : o = .is ∨ o = .isnot) {d e r : D} (ho : o2 o d e = some r) : e = .non ∨ ∃ a b, d = .bl a ∧ e = .bl b := by
  cases e with
  | non => exact .inl rfl
  | bl b =>
    cases d with
    | bl a => exact .inr ⟨a, b, rfl, rfl⟩
    | _ => rcases h with rfl | rfl <;> cases ho
  | _ => rcases h with rfl | rfl <;> cases d <;> cases ho
theorem ro_is : OpR X (compareOp .Is) (rO2 X.K .is) := by
  rintro pins s σ H x y v u Q I rx ry ⟨Fb, m, d, e, r, hf, hx, hy, ho, q⟩
  rcases is_cases (.inl rfl) ho with rfl | ⟨a, b, rfl, rfl⟩
  · obtain rfl := Option.some.inj (show some (D.bl d.isNon) = some r by cases d <;> exact ho)
    obtain rfl := hy.non_inv
    refine op_isN pins s σ H _ _ v u Q I rx ry ⟨rfl, ?_⟩
    rw [rep_isN hx]
    exact q _ _ (Evl.Ex.refl _) (.bl _)
  · obtain rfl := Option.some.inj (show some (D.bl (decide (a = b))) = some r from ho)
    obtain rfl := hx.bl_inv
    obtain rfl := hy.bl_inv
    exact op_is_bl pins s σ H _ _ v u Q I rx ry ⟨a, b, rfl, rfl, q _ _ (Evl.Ex.refl _) (.bl _)⟩
theorem ro_isnot : OpR X (compareOp .IsNot) (rO2 X.K .isnot) := by
  rintro pins s σ H x y v u Q I rx ry ⟨Fb, m, d, e, r, hf, hx, hy, ho, q⟩
  rcases is_cases (.inr rfl) ho with rfl | ⟨a, b, rfl, rfl⟩
  · obtain rfl := Option.some.inj (show some (D.bl (!d.isNon)) = some r by cases d <;> exact ho)
    obtain rfl := hy.non_inv
    refine op_notN pins s σ H _ _ v u Q I rx ry ⟨rfl, ?_⟩
    rw [rep_isN hx]
    exact q _ _ (Evl.Ex.refl _) (.bl _)
  · obtain rfl := Option.some.inj (show some (D.bl (!decide (a = b))) = some r from ho)
    obtain rfl := hx.bl_inv
    obtain rfl := hy.bl_inv
    exact op_isnot_bl pins s σ H _ _ v u Q I rx ry ⟨a, b, rfl, rfl, q _ _ (Evl.Ex.refl _) (.bl _)⟩
end
end Ev
end

section
set_option Elab.async false
set_option linter.all false
set_option maxRecDepth 100000
namespace Ev
variable [TabList]
open PySem L2
/-! the library's own names of the same functions -/
theorem sIx_same (n k : Nat) (o : Option Int) : HT.sIx n k o = sIx n k o := by cases o <;> rfl
theorem ixN_same (n : Nat) (i : Int) : L2.ixN n i = Ev.ixN n i := rfl
theorem RepL.at {K : PySem.W.Frag} {Fb : Addr → Prop} {m : List Addr} {H : Hp} {vs : List V} {ds : List D} {i : Int} {d : D} (r : RepL K Fb m H vs ds) (h : Ev.atI ds i = some d) : ∃ v, L2.atI vs i = some v ∧ Rep K Fb m H v d := by
  unfold Ev.atI at h
  obtain ⟨j, h1, h2⟩ := Option.bind_eq_some_iff.mp h
  obtain ⟨v, h3, h4⟩ := r.get h2
  refine ⟨v, ?_, h4⟩
  unfold L2.atI
  rw [ixN_same, r.length, h1]
  exact h3
section
variable {X : Cx}
theorem ro_ix : IxR X (rO2 X.K .ix) := by
  rintro value slice pins s σ H x y v u Q I rx ry ⟨Fb, m, d, e, r, hf, hx, hy, ho, q⟩ hs
  cases d with
  | lst ds =>
    cases e <;> simp only [o2, reduceCtorEq] at ho
    obtain rfl := hy.int_inv
    obtain ⟨a, vs, rfl, hv, rv⟩ := hx.lst_inv
    obtain ⟨z, hz, rz⟩ := rv.at ho
    exact ix_list value slice pins s σ H _ _ v u Q I rx ry ⟨a, vs, _, z, rfl, rfl, hv, hz, q _ _ (Evl.Ex.refl _) rz⟩ hs
  | tup ds =>
    cases e <;> simp only [o2, reduceCtorEq] at ho
    obtain rfl := hy.int_inv
    obtain ⟨a, vs, rfl, hv, rv⟩ := hx.tup_inv
    obtain ⟨z, hz, rz⟩ := rv.at ho
    exact ix_tup value slice pins s σ H _ _ v u Q I rx ry ⟨a, vs, _, z, rfl, rfl, hv, hz, q _ _ (Evl.Ex.refl _) rz⟩ hs
  | str z =>
    cases e <;> simp only [o2, reduceCtorEq, Option.ite_none_right_eq_some] at ho
    obtain ⟨hl, ho⟩ := ho
    obtain ⟨c, hc, rfl⟩ := Option.map_eq_some_iff.mp ho
    obtain rfl := hy.int_inv
    obtain rfl := hx.str_inv
    exact ix_str value slice pins s σ H _ _ v u Q I rx ry ⟨_, _, c, rfl, rfl, by rw [← LIM_eq]; exact hl, hc, q _ _ (Evl.Ex.refl _) (.str _)⟩ hs
  | _ => cases e <;> simp [o2] at ho
def rSl (K : PySem.W.Frag) : V → Option Int → Option Int → Hp → VK → Prop := fun x lo hi H Q => ∃ (Fb : Addr → Prop) (m : List Addr) (d r : D), (∀ a, Fb a → H a ≠ none) ∧ RepV K Fb m H x d ∧ slD lo hi d = some r ∧
  ∀ v H', Ext H H' → Rep K Fb m H' v r → Q v H'
theorem cut_all {α : Type} (xs : List α) (lo hi : Option Int) (h1 : sIx xs.length 0 lo = 0) (h2 : sIx xs.length xs.length hi = xs.length) : Ev.cut xs lo hi = xs := by
  unfold Ev.cut
  rw [h1, h2]
  simp
theorem ro_sl : SlR X (rSl X.K) := by
  rintro pins s σ H x v vl vu lo hi sl Q I rx hs pl pu ⟨Fb, m, d, r, hf, hx, ho, q⟩
  cases d with
  | lst ds =>
    obtain rfl : _ = _ := Option.some.inj ho
    obtain ⟨a, vs, rfl, hv, rv⟩ := hx.lst_inv
    exact sl_list pins s σ H _ v vl vu lo hi sl Q I rx hs pl pu ⟨a, vs, rfl, hv, fun p hp => q _ _ (Evl.Ex.new hp) (rep_new_lst hf hp (rv.cut lo hi))⟩
  | tup ds =>
    obtain rfl : _ = _ := Option.some.inj ho
    obtain ⟨a, vs, rfl, hv, rv⟩ := hx.tup_inv
    refine sl_tupA pins s σ H _ v vl vu lo hi sl Q I rx hs pl pu ⟨a, vs, rfl, hv, fun ⟨e1, e2⟩ => ?_, fun _ p hp => q _ _ (Evl.Ex.new hp) (rep_new_tup hp (rv.cut lo hi))⟩
    rw [sIx_same, rv.length] at e1 e2
    refine q _ _ (Evl.Ex.refl _) ?_
    rw [cut_all ds lo hi e1 e2]
    exact .tup hv rv
  | str z =>
    simp only [slD, Option.ite_none_right_eq_some, Option.some.injEq] at ho
    obtain ⟨hl, rfl⟩ := ho
    obtain rfl := hx.str_inv
    refine sl_str pins s σ H _ v vl vu lo hi sl Q I rx hs pl pu ⟨z, rfl, by rw [← LIM_eq]; exact hl, q _ _ (Evl.Ex.refl _) ?_⟩
    have e : cutS z lo hi = cutStr z lo hi := by
      unfold cutS cutStr Ev.cut
      rw [sIx_same, sIx_same]
      rfl
    rw [e]
    exact .str _
  | _ => simp [slD] at ho

/-! ### built-ins of one value -/
theorem rep1 {K : PySem.W.Frag} {Fb : Addr → Prop} {m : List Addr} {H : Hp} {x : V} {d : D} (h : RepV K Fb m H x d) : ∀ is, d = .lst (is) → ∃ a vs, x = .ref a ∧ SqL K H a vs ∧ RepL K Fb m H vs is := fun is e => by
  subst e
  exact h.lst_inv
theorem ints_vs {K : PySem.W.Frag} {Fb : Addr → Prop} {m : List Addr} {H : Hp} : ∀ {vs : List V} {ds : List D} {is : List Int}, RepL K Fb m H vs ds → ints? ds = some is → vs = is.map V.int
  | _, _, _, .nil, h => by
    obtain rfl := Option.some.inj h
    rfl
  | _, _, _, .cons (d := .int i) a r, h => by
    obtain ⟨js, h1, rfl⟩ := Option.map_eq_some_iff.mp (show (ints? _).map (i :: ·) = some _ from h)
    cases a
    rw [ints_vs r h1]
    rfl
theorem bls_vs {K : PySem.W.Frag} {Fb : Addr → Prop} {m : List Addr} {H : Hp} : ∀ {vs : List V} {ds : List D} {is : List Bool}, RepL K Fb m H vs ds → bls? ds = some is → vs = is.map V.bl
  | _, _, _, .nil, h => by
    obtain rfl := Option.some.inj h
    rfl
  | _, _, _, .cons (d := .bl i) a r, h => by
    obtain ⟨js, h1, rfl⟩ := Option.map_eq_some_iff.mp (show (bls? _).map (i :: ·) = some _ from h)
    cases a
    rw [bls_vs r h1]
    rfl
def rC1 (K : PySem.W.Frag) (F : ReprF) (o : Op1) : List V → Hp → VK → Prop := fun xs H Q => ∃ x, xs = [x] ∧ rO1 K F o x H Q
variable {F : ReprF}
theorem rc_len : CallR X (.builtin "len") (rC1 X.K F .len) := by
  rintro pins s σ H xs us Q I r ⟨x, rfl, Fb, m, d, r', hf, hx, ho, q⟩
  cases d with
  | lst ds =>
    obtain rfl : _ = _ := Option.some.inj ho
    obtain ⟨a, vs, rfl, hv, rv⟩ := hx.lst_inv
    exact call_len_seq pins s σ H _ us Q I r ⟨a, vs, rfl, .inl hv, by rw [rv.length]; exact q _ _ (Evl.Ex.refl _) (.int _)⟩
  | tup ds =>
    obtain rfl : _ = _ := Option.some.inj ho
    obtain ⟨a, vs, rfl, hv, rv⟩ := hx.tup_inv
    exact call_len_seq pins s σ H _ us Q I r ⟨a, vs, rfl, .inr hv, by rw [rv.length]; exact q _ _ (Evl.Ex.refl _) (.int _)⟩
  | str z =>
    simp only [o1, Option.ite_none_right_eq_some, Option.some.injEq] at ho
    obtain ⟨hl, rfl⟩ := ho
    obtain rfl := hx.str_inv
    exact call_len_str pins s σ H _ us Q I r ⟨z, rfl, by rw [← LIM_eq]; exact hl, q _ _ (Evl.Ex.refl _) (.int _)⟩
  | _ => simp [o1] at ho
theorem rc_tuple : CallR X (.type "tuple") (rC1 X.K F .tuple) := by
  rintro pins s σ H xs us Q I r ⟨x, rfl, Fb, m, d, r', hf, hx, ho, q⟩
  cases d with
  | lst ds =>
    obtain rfl : _ = _ := Option.some.inj ho
    obtain ⟨a, vs, rfl, hv, rv⟩ := hx.lst_inv
    exact call_tuple_of pins s σ H _ us Q I r ⟨a, vs, rfl, .inl ⟨hv, fun p hp => q _ _ (Evl.Ex.new hp) (rep_new_tup hp rv)⟩⟩
  | tup ds =>
    obtain rfl : _ = _ := Option.some.inj ho
    obtain ⟨a, vs, rfl, hv, rv⟩ := hx.tup_inv
    exact call_tuple_of pins s σ H _ us Q I r ⟨a, vs, rfl, .inr ⟨hv, q _ _ (Evl.Ex.refl _) (.tup hv rv)⟩⟩
  | _ => simp [o1] at ho
theorem rc_list : CallR X (.type "list") (rC1 X.K F .list) := by
  rintro pins s σ H xs us Q I r ⟨x, rfl, Fb, m, d, r', hf, hx, ho, q⟩
  cases d with
  | lst ds =>
    obtain rfl : _ = _ := Option.some.inj ho
    obtain ⟨a, vs, rfl, hv, rv⟩ := hx.lst_inv
    exact call_list_of pins s σ H _ us Q I r ⟨a, vs, rfl, .inl hv, fun p hp => q _ _ (Evl.Ex.new hp) (rep_new_lst hf hp rv)⟩
  | tup ds =>
    obtain rfl : _ = _ := Option.some.inj ho
    obtain ⟨a, vs, rfl, hv, rv⟩ := hx.tup_inv
    exact call_list_of pins s σ H _ us Q I r ⟨a, vs, rfl, .inr hv, fun p hp => q _ _ (Evl.Ex.new hp) (rep_new_lst hf hp rv)⟩
  | _ => simp [o1] at ho
theorem rc_sum (hc : X.calm = true) : CallR X (.builtin "sum") (rC1 X.K F .sum) := by
  rintro pins s σ H xs us Q I r ⟨x, rfl, Fb, m, d, r', hf, hx, ho, q⟩
  cases d <;> simp only [o1, reduceCtorEq, Option.map_eq_some_iff] at ho
  obtain ⟨is, hi, rfl⟩ := ho
  obtain ⟨a, vs, rfl, hv, rv⟩ := hx.lst_inv
  obtain rfl := ints_vs rv hi
  exact cr_sum hc pins s σ H _ us Q I r ⟨a, is, rfl, hv, q _ _ (Evl.Ex.refl _) (.int _)⟩
theorem rc_any (hc : X.calm = true) : CallR X (.builtin "any") (rC1 X.K F .any) := by
  rintro pins s σ H xs us Q I r ⟨x, rfl, Fb, m, d, r', hf, hx, ho, q⟩
  cases d <;> simp only [o1, reduceCtorEq, Option.map_eq_some_iff] at ho
  obtain ⟨is, hi, rfl⟩ := ho
  obtain ⟨a, vs, rfl, hv, rv⟩ := hx.lst_inv
  obtain rfl := bls_vs rv hi
  exact cr_any hc pins s σ H _ us Q I r ⟨a, is, rfl, hv, q _ _ (Evl.Ex.refl _) (.bl _)⟩
theorem rc_all (hc : X.calm = true) : CallR X (.builtin "all") (rC1 X.K F .all) := by
  rintro pins s σ H xs us Q I r ⟨x, rfl, Fb, m, d, r', hf, hx, ho, q⟩
  cases d <;> simp only [o1, reduceCtorEq, Option.map_eq_some_iff] at ho
  obtain ⟨is, hi, rfl⟩ := ho
  obtain ⟨a, vs, rfl, hv, rv⟩ := hx.lst_inv
  obtain rfl := bls_vs rv hi
  exact cr_all hc pins s σ H _ us Q I r ⟨a, is, rfl, hv, q _ _ (Evl.Ex.refl _) (.bl _)⟩
theorem rc_abs : CallR X (.builtin "abs") (rC1 X.K F .abs) := by
  rintro pins s σ H xs us Q I r ⟨x, rfl, Fb, m, d, r', hf, hx, ho, q⟩
  cases d <;> simp only [o1, reduceCtorEq, Option.some.injEq] at ho
  subst ho
  obtain rfl := hx.int_inv
  exact call_abs pins s σ H _ us Q I r ⟨_, rfl, q _ _ (Evl.Ex.refl _) (.int _)⟩
theorem rc_int : CallR X (.type "int") (rC1 X.K F .int) := by
  rintro pins s σ H xs us Q I r ⟨x, rfl, Fb, m, d, r', hf, hx, ho, q⟩
  cases d <;> simp only [o1, reduceCtorEq, Option.some.injEq] at ho
  · subst ho
    obtain rfl := hx.bl_inv
    exact call_int1 pins s σ H _ us Q I r (.inr ⟨_, rfl, q _ _ (Evl.Ex.refl _) (.int _)⟩)
  · subst ho
    obtain rfl := hx.int_inv
    exact call_int1 pins s σ H _ us Q I r (.inl ⟨_, rfl, q _ _ (Evl.Ex.refl _) (.int _)⟩)
mutual
theorem py_noDict : ∀ d : D, (D.py d).hasDict = false
  | .non | .bl _ | .int _ | .str _ | .obj _ _ _ | .ref _ => rfl
  | .tup xs => pys_noDict xs
  | .lst xs => pys_noDict xs
theorem pys_noDict : ∀ ds : List D, PyData.hasDictAll (D.pys ds) = false
  | [] => rfl
  | x :: xs => by
    rw [D.pys, PyData.hasDictAll, py_noDict x, pys_noDict xs]
    rfl
end
/-- the order of sorting -/
def leD (x y : D) : Bool := !PySem.W.dataLt (D.py y) (D.py x)
def sortB (ds : List D) : Bool := ds.all D.isTup || (ds.all fun d => match d with | .non => false | .tup _ => false | _ => true)
def srtL (ds : List D) : Option (List D) := if D.plains ds && (ds.all fun d => ds.all fun e => PySem.W.alike (D.py d) (D.py e)) && sortB ds && (ds.all fun d => decide (D.depth d ≤ 64)) && decide (ds.length ≤ LIM) then some (ds.mergeSort leD) else none
/-- what repr writes -/
def reprL : ReprF where
  text d := (D.py d).shown
  ok d := (D.py d).showable && decide ((D.py d).shown.length ≤ LIM) && decide (D.depth d ≤ 64)
  srt := srtL
  uni := uniL
theorem rc_repr (hg : X.A.guards = some []) (hu : X.A.units + 66 < cLine) : CallR X (.builtin "repr") (rC1 X.K reprL .repr) := by
  rintro pins s σ H xs us Q I r ⟨x, rfl, Fb, m, d, r', hf, hx, ho, q⟩
  obtain ⟨u, rfl, rx⟩ := Vals.one r
  simp only [o1, Option.ite_none_right_eq_some, Option.some.injEq, Bool.and_eq_true, reprL, decide_eq_true_eq] at ho
  obtain ⟨⟨pd, ⟨hs, hl⟩, hd⟩, rfl⟩ := ho
  cases d with
  | non =>
    obtain rfl := hx.non_inv
    cases rx
    exact PySem.P.repr_of_none ⟨.str _, H, I.tok _, ⟨_, rfl⟩, q _ _ (Evl.Ex.refl _) (.str _)⟩
  | bl b =>
    obtain rfl := hx.bl_inv
    cases rx
    exact PySem.P.repr_of_bool ⟨.str _, H, I.tok _, ⟨_, rfl⟩, q _ _ (Evl.Ex.refl _) (.str _)⟩
  | int i =>
    obtain rfl := hx.int_inv
    obtain ⟨t, rfl⟩ := rx
    exact PySem.P.repr_of_int (of_decide_eq_true hs) ⟨.str _, H, I.tok _, ⟨_, rfl⟩, q _ _ (Evl.Ex.refl _) (.str _)⟩
  | str z =>
    obtain rfl := hx.str_inv
    obtain ⟨t, rfl⟩ := rx
    exact PySem.P.repr_of_str ⟨.str _, H, I.tok _, ⟨_, rfl⟩, q _ _ (Evl.Ex.refl _) (.str _)⟩ (by rw [← LIM_eq]; exact hl)
  | ref k => cases pd
  | obj _ _ _ => cases pd
  | lst ds =>
    obtain ⟨as, rd⟩ := Dp.reads I _ x u (hx.dp pd) rx
    obtain ⟨a, vs, rfl, hv, rv⟩ := hx.lst_inv
    cases rx
    refine PySem.repr_of_reads' (h₀ := s.heap) rd hs (PyData.noDict_hsm (py_noDict _)) hg (by rw [py_depth]; omega) (fun _ _ e => e) (fun h' t tk hk => ⟨.str _, H, I.kept hk, ⟨_, rfl⟩, q _ _ (Evl.Ex.refl _) (.str _)⟩) (by rw [← LIM_eq]; exact hl)
  | tup ds =>
    obtain ⟨as, rd⟩ := Dp.reads I _ x u (hx.dp pd) rx
    obtain ⟨a, vs, rfl, hv, rv⟩ := hx.tup_inv
    cases rx
    refine PySem.repr_of_reads' (h₀ := s.heap) rd hs (PyData.noDict_hsm (py_noDict _)) hg (by rw [py_depth]; omega) (fun _ _ e => e) (fun h' t tk hk => ⟨.str _, H, I.kept hk, ⟨_, rfl⟩, q _ _ (Evl.Ex.refl _) (.str _)⟩) (by rw [← LIM_eq]; exact hl)
end
end Ev
end

section
set_option Elab.async false
set_option linter.all false
set_option maxRecDepth 100000
namespace Ev
variable [TabList]
open PySem L2 PyProof.Rows PySem.W PySem.SeqAt PySem.MeetsSeq
/-! ### tuples, empty ones among them: how they are sorted -/
/-- a value whose data are told -/
abbrev Told (h : PySem.Heap) (v : Value) (d : PyData) : Prop := ∃ as, Reads h v d as
/-- a data tuple's cell, and that it holds as many values as the data say -/
theorem tup_cell {h : PySem.Heap} {v : Value} {xs : List PyData} (t : Told h v (.tuple xs)) :
    ∃ (l : Addr) (o : Obj) (its : Array Value) (n : Nat) (as : List Addr), v = .ref l ∧ h.get? l = some o ∧ o.cls = .type "tuple" ∧ o.data = .seq its n ∧ ReadsAll h its.toList xs as ∧ its.size = xs.length := by
  obtain ⟨as, r⟩ := t
  cases r with
  | tuple at_ kind data all =>
    have same := SeqAt.ReadsAll.length _ _ _ all
    rw [Array.length_toList] at same
    exact ⟨_, _, _, _, _, rfl, at_, kind, data, all, same⟩
theorem less_room {A : Around} {x y : PyData} (u : A.units + x.depth < cLine) : A.units + min x.depth y.depth < cLine := by omega
section
variable {A : Around} {s : Shared} {prog : Program} {w : World}
/-- `<` of two tuples that may be compared, in the way of a sort that knows them to be of one type -/
theorem tup_before {xs ys : List PyData} {a b : Value} {Q : Bool → Shared → Prop} {E : Value → Shared → Prop} (ta : Told s.heap a (.tuple xs)) (tb : Told s.heap b (.tuple ys)) (same : alikeAll xs ys = true)
    (u : A.units + (PyData.tuple xs).depth < cLine) (q : Q (dataLt (.tuple xs) (.tuple ys)) s) : wpAny (model prog w) A (oneLt' true a b) Q E s := by
  obtain ⟨l, ⟨_, da, _, sa⟩, us, n, _, rfl, al, rfl, rfl, ar, an⟩ := tup_cell ta
  obtain ⟨m, ⟨_, db, _, sb⟩, vs, n', _, rfl, bl, rfl, rfl, br, bn⟩ := tup_cell tb
  have u2 := less_room (y := .tuple ys) u
  -- place by place: whether alike, and if not, whether less
  have eqs : ∀ j (hj : j < us.size) (hk : j < vs.size), EqAt A.in1 s us[j] vs[j] (pairEq xs ys j) := fun j hj hk =>
    eqAt_alikeAll xs ys _ s us.toList vs.toList _ _ ar br same (SeqAt.room_in u2) j (Array.length_toList ▸ hj) (Array.length_toList ▸ hk)
  have lts : ∀ j (hj : j < us.size) (hk : j < vs.size), pairEq xs ys j = false → RcLt A.in1 s us[j] vs[j] (dataLt (xs.getD j .none) (ys.getD j .none)) := fun j hj hk ne =>
    rcLt_alikeAll xs ys _ s us.toList vs.toList _ _ ar br same (SeqAt.room_in u2) j (Array.length_toList ▸ hj) (Array.length_toList ▸ hk) ne
  have told : firstLt (pairEq xs ys) (fun j => dataLt (xs.getD j .none) (ys.getD j .none)) (decide (us.size < vs.size)) (List.range (min us.size vs.size)) = dataLt (.tuple xs) (.tuple ys) := by
    rw [an, bn, firstLt_toks xs ys same, dataLt_tuple]
  have ask : wpAny (model prog w) A (call (.builtin "tuple.__lt__") [.ref l, .ref m]) (fun r z => r = .bool (dataLt (.tuple xs) (.tuple ys)) ∧ z = s) E s :=
    call_meets F.slot_tuple_lt ⟨_, al, rfl⟩ F.entry_tuple_lt (F.args_tuple_lt_2 _ _) (tuple_ltAt l m us vs n n' da db sa sb _ _) ⟨al, bl, eqs, lts, told ▸ ⟨rfl, rfl⟩⟩
  rw [oneLt'_eq, if_pos rfl]
  exact wpAny_bind (wpAny_cRoomFor (SeqAt.room_here u2) (wpAny_bind (wpAny_callSpecialIfBound?_slot (T := "tuple") ⟨_, al, rfl⟩ F.slot_tuple_lt (wpAny_mono ask (fun r z h => by
    obtain ⟨rfl, rfl⟩ := h
    exact wpAny_truthy_bool q) fun _ _ e => e))))
end
/-- it has a first item -/
def firstB : PyData → Bool
  | .tuple (_ :: _) => true
  | _ => false
section
variable {M : Model} {A : Around} {s : Shared}
/-- the first item of a tuple, if it has one -/
theorem first_tup {xs : List PyData} {v : Value} {Q : Option Value → Shared → Prop} {E : Value → Shared → Prop} (t : Told s.heap v (.tuple xs)) (q : ∀ f : Option Value, f.isSome = firstB (.tuple xs) → Q f s) : wpAny M A (firstOfTuple' v) Q E s := by
  obtain ⟨l, o, its, n, _, rfl, at_, kind, data, _, size⟩ := tup_cell t
  have look : Looks M s.heap (typeOf (.ref l)) (.type "tuple") := kind ▸ (Looks.ld at_).andThen .now
  rw [kas_first_eq]
  refine wpAny_bind (look.here ?_)
  rw [if_neg (by decide)]
  refine wpAny_bind (listItems_at at_ data (wpAny_pure (q _ ?_)))
  cases xs with
  | nil =>
    have out : its[0]? = none := Array.getElem?_eq_none (Nat.le_of_eq size)
    rw [out]
    rfl
  | cons x xs => rw [Array.getElem?_eq_getElem (size ▸ Nat.succ_pos _), firstB, Option.isSome_some]
theorem firsts_tup : ∀ {vs : List Value} {ds : List PyData} {Q : List (Option Value) → Shared → Prop} {E : Value → Shared → Prop}, EachIs (Told s.heap) vs ds → (∀ d ∈ ds, ∃ xs, d = .tuple xs) →
    (∀ fs : List (Option Value), fs.map (·.isSome) = ds.map firstB → Q fs s) → wpAny M A (vs.mapM firstOfTuple') Q E s
  | _, _, _, _, .nil, _, q => by
    rw [List.mapM_nil]
    exact wpAny_pure (q [] rfl)
  | _, _, _, _, .cons t ts, tups, q => by
    obtain ⟨xs, rfl⟩ := tups _ List.mem_cons_self
    rw [List.mapM_cons]
    refine (wpAny_bind (first_tup t fun f hf => wpAny_bind (firsts_tup ts (fun d hd => tups d (List.mem_cons_of_mem _ hd)) fun fs hfs => wpAny_pure (q _ ?_))))
    rw [List.map_cons, List.map_cons, hf, hfs]
end
section
variable {A : Around} {s : Shared} {prog : Program} {w : World}
/-- which way of comparing list.sort takes where some tuple is empty: it depends on whether the first one is -/
theorem kind_tup {vs : List Value} {ds : List PyData} {Q : SortKind → Shared → Prop} {E : Value → Shared → Prop} (each : EachIs (Told s.heap) vs ds) (tups : ∀ d ∈ ds, ∃ xs, d = .tuple xs) (two : 2 ≤ vs.length) (some_empty : ds.all firstB = false)
    (general : (ds.map firstB)[0]? = some true → Q general' s) (one : (ds.map firstB)[0]? ≠ some true → Q oneType' s) : wpAny (model prog w) A (keyKind' vs.toArray) Q E s := by
  rw [keyKind'_eq, List.mapM_toArray]
  rw [map_eq_pure_bind]
  refine wpAny_bind (wpAny_bind (firsts_tup each tups fun fs hfs => wpAny_pure ?_))
  have whole : fs.toArray.all (·.isSome) = false := by
    have e : fs.all (·.isSome) = ds.all firstB := by
      rw [show fs.all (·.isSome) = (fs.map (·.isSome)).all id by rw [List.all_map]; rfl, hfs, List.all_map]
      rfl
    rw [List.all_toArray, e, some_empty]
  have head : (fs.toArray[0]?.bind id).isSome = true ↔ (ds.map firstB)[0]? = some true := by
    rw [List.getElem?_toArray, ← hfs, List.getElem?_map]
    cases fs[0]? with
    | none => exact ⟨fun h => (by cases h), fun h => (by cases h)⟩
    | some f => cases f <;> exact ⟨fun h => (by cases h <;> rfl), fun h => (by cases h <;> rfl)⟩
  rw [if_neg (Bool.eq_false_iff.mp whole)]
  by_cases h : (ds.map firstB)[0]? = some true
  · rw [if_pos (head.mpr h)]
    exact wpAny_pure (general h)
  · rw [if_neg fun z => h (head.mp z), oneTypeOnly'_eq, List.mapM_toArray]
    rw [map_eq_pure_bind]
    have types : ∀ v ∈ vs, Looks (model prog w) s.heap (typeOf v) (.type "tuple") := fun v hv => by
      have m := each.left v hv
      obtain ⟨d, hd, _, told⟩ := m
      obtain ⟨xs, rfl⟩ := tups d hd
      exact looks_reads told
    refine wpAny_bind (wpAny_bind (wpAny_bind (kas_mapM (r := Value.type "tuple") _ (fun v hv Q' hq => (types v hv).here hq) (wpAny_pure ?_))))
    match vs, two with
    | v :: us, _ =>
      have all_tuple : ((v :: us).map fun _ => Value.type "tuple").toArray.all (· == Value.type "tuple") = true := by
        rw [List.all_toArray, List.all_eq_true]
        intro t ht
        obtain ⟨_, _, rfl⟩ := List.mem_map.mp ht
        exact beq_self_eq_true _
      have at0 : ((v :: us).map fun _ => Value.type "tuple").toArray[0]? = some (.type "tuple") := rfl
      rw [at0]
      dsimp only
      rw [if_pos all_tuple]
      exact wpAny_pure (wpAny_pure (one h))
theorem sorts_tup {vs : List Value} {ds : List PyData} (each : EachIs (Told s.heap) vs ds) (hal : AllAlike ds) (tups : ∀ d ∈ ds, ∃ xs, d = .tuple xs) (u : ∀ d ∈ ds, A.units + d.depth < cLine) : SortsAt prog w A s (dataKind s.heap ds) vs := by
  by_cases none_empty : ds.all firstB = true
  · refine SortsAt.data each hal (.inl fun d hd => ?_) u
    have f := List.all_eq_true.mp none_empty d hd
    obtain ⟨xs, rfl⟩ := tups d hd
    match xs, f with
    | x :: r, _ => exact ⟨x, r, rfl⟩
  · have keys : ∀ v ∈ vs, ∃ k, (dataKind s.heap ds).keyOf v = some k := fun v hv =>
      have ⟨_, hd, _, r⟩ := each.left v hv
      ⟨_, dataKind_some hal hd r⟩
    have empty := Bool.eq_false_iff.mpr none_empty
    by_cases h : (ds.map firstB)[0]? = some true
    · refine ⟨keys, general', fun E x y a b Q ha hb q => ?_, fun two E Q q => kind_tup each tups two empty (fun _ => q) fun z => absurd h z⟩
      have ⟨d, _, hd, ra, ea⟩ := dataKind_inv ha
      have ⟨e, _, he, rb, eb⟩ := dataKind_inv hb
      subst ea eb
      obtain ⟨xs, rfl⟩ := tups d hd
      exact oneLt_alike (f := false) nofun ra rb (hal _ hd e he) nofun (less_room (u _ hd)) q
    · refine ⟨keys, oneType', fun E x y a b Q ha hb q => ?_, fun two E Q q => kind_tup each tups two empty (fun z => absurd z h) fun _ => q⟩
      have ⟨d, _, hd, ra, ea⟩ := dataKind_inv ha
      have ⟨e, _, he, rb, eb⟩ := dataKind_inv hb
      subst ea eb
      obtain ⟨xs, rfl⟩ := tups d hd
      obtain ⟨ys, rfl⟩ := tups e he
      rw [keyLt'_oneType]
      exact tup_before ⟨_, ra⟩ ⟨_, rb⟩ (hal _ hd _ he) (u _ hd) q
end
end Ev
end

section
set_option Elab.async false
set_option linter.all false
set_option maxRecDepth 100000
namespace Ev
variable [TabList]
open PySem L2 PyProof.Rows PySem.W
/-! ### sorted(x), x a list or a tuple -/
section
variable {A : Around} {s : Shared} {prog : Program} {w : World}
/-- the new list that sorted(..) sorts, on top of z's heap -/
abbrev laidOut (z : Shared) (vs : List Value) : PySem.Heap := z.heap.push (seqObj "list" vs.toArray 0)
/-- sorted(x), whatever x is: its values are collected (C), laid out and sorted in place -/
theorem sorted_from {x : Value} {C : List Value → Shared → Prop} {Q E : Value → Shared → Prop} (gather : wpAny (model prog w) A.in1 (collect x) C E s)
    (rest : ∀ vs z, C vs z → vs.length ≤ sizeLine ∧ ∃ κ : PyProof.Rows.KeyKind, SortsAt prog w A.in1.in1 { z with heap := sortingHeap (laidOut z vs) z.heap.objs.size vs } κ vs ∧
      Q (.ref z.heap.objs.size) { z with heap := sortedHeap (laidOut z vs) z.heap.objs.size vs (sortVals κ false vs vs).toArray }) :
    wpAny (model prog w) A (call (.builtin "sorted") [x]) Q E s := by
  have body : wpAny (model prog w) A.in1 (Builtin.«sorted» ⟨[x], []⟩) (fun f z => ∃ v, f = .done (.ret v) ∧ Q v z) E s :=
    wpAny_bind (wpAny_pure (wpAny_bind (wpAny_mono gather (fun vs z c => by
      obtain ⟨few, κ, S, q⟩ := rest vs z c
      have top : (laidOut z vs).get? z.heap.objs.size = some (seqObj "list" vs.toArray 0) := Heap.get?_push_size _ rfl
      have srt := list_sort_vals (s := { z with heap := laidOut z vs }) (P := fun f y => ∃ v, f = .done (.ret v) ∧ ∃ u, PySem.Fin.done (PySem.Flow.ret (.ref z.heap.objs.size)) = .done (.ret u) ∧ Q u y) (E := E) top S few ⟨.none, rfl, _, rfl, q⟩
      exact wpAny_bind (wpAny_newList (wpAny_bind (wpAny_holding (wpAny_mono (wpAny_call_entry slot_list_sort ⟨_, top, rfl⟩ entry_list_sort srt (args_list_sort _)) (fun _ _ h => wpAny_pure h) fun _ _ e => e))) few)) fun _ _ e => e)))
  exact PySem.Calls.call_function_entry kind_sorted plain_sorted entry_sorted (args_sorted1 x) body
/-- what stood before stands while it is sorted, and behind it -/
theorem laid_keeps {z : Shared} {vs : List Value} {b : Addr} {o : Obj} (e : z.heap.get? b = some o) : (sortingHeap (laidOut z vs) z.heap.objs.size vs).get? b = some o ∧ ∀ out, (sortedHeap (laidOut z vs) z.heap.objs.size vs out).get? b = some o := by
  have lt := Heap.lt_size e
  have e2 : (laidOut z vs).get? b = some o := Heap.get?_push_of_some _ e
  refine ⟨sortingHeap_old (Nat.ne_of_lt lt) e2, fun out => ?_⟩
  have old := sortedHeap_old (h := laidOut z vs) (vs := vs) (out := out) (Nat.ne_of_lt lt) (Heap.lt_size e2)
  exact old.trans e2
end
section
variable {K : PySem.W.Frag} {Fb : Addr → Prop} {m : List Addr} {H : Hp} {X : Cx}
theorem each_reads {h : PySem.Heap} : ∀ {us : List Value} {ds : List PyData} {as : List Addr}, ReadsAll h us ds as → EachIs (fun v d => ∃ as, Reads h v d as) us ds
  | _, _, _, .nil => .nil
  | _, _, _, .cons r t => .cons ⟨_, r⟩ (each_reads t)
/-- a value, what stands for it, what it is -/
def Stand (K : PySem.W.Frag) (Fb : Addr → Prop) (m : List Addr) (H : Hp) (u : Value) (p : V × D) : Prop := RelV p.1 u ∧ Rep K Fb m H p.1 p.2
theorem each_stand : ∀ {vs : List V} {us : List Value} {ds : List D}, Vals vs us → RepL K Fb m H vs ds → EachIs (Stand K Fb m H) us (vs.zip ds)
  | _, _, _, .nil, .nil => .nil
  | _, _, _, .cons r t, .cons q s => .cons ⟨r, q⟩ (each_stand t s)
theorem stand_out : ∀ {us : List Value} {ps : List (V × D)}, EachIs (Stand K Fb m H) us ps → Vals (ps.map (·.1)) us ∧ RepL K Fb m H (ps.map (·.1)) (ps.map (·.2))
  | _, _, .nil => ⟨.nil, .nil⟩
  | _, _, .cons h t => ⟨.cons h.1 (stand_out t).1, .cons h.2 (stand_out t).2⟩
theorem zip_snd {α β : Type} : ∀ {l : List α} {k : List β}, l.length = k.length → (l.zip k).map (·.2) = k
  | [], [], _ => rfl
  | _ :: _, _ :: _, h => congrArg (_ :: ·) (zip_snd (Nat.succ.inj h))
  | [], _ :: _, h => by cases h
  | _ :: _, [], h => by cases h
theorem pys_map : ∀ ds : List D, D.pys ds = ds.map D.py
  | [] => rfl
  | d :: ds => congrArg (D.py d :: ·) (pys_map ds)
theorem plains_mem : ∀ {ds : List D} {d : D}, D.plains ds = true → d ∈ ds → d.plain = false → False
  | a :: ds, d, hp, hm, hd => by
    have hp := (Bool.and_eq_true _ _).mp (show (D.plain a && D.plains ds) = true from hp)
    rcases List.mem_cons.mp hm with z | z
    · rw [← z, hd] at hp
      cases hp.1
    · exact plains_mem hp.2 z hd
theorem srt_conds {ds es : List D} (h : srtL ds = some es) : D.plains ds = true ∧ AllAlike (D.pys ds) ∧ ((∀ d ∈ D.pys ds, ∃ xs, d = PyData.tuple xs) ∨ Sortable (D.pys ds)) ∧ (∀ d ∈ D.pys ds, d.depth ≤ 64) ∧ ds.length ≤ LIM ∧ es = ds.mergeSort leD := by
  unfold srtL at h
  simp only [Option.ite_none_right_eq_some, Option.some.injEq, andI, decI, List.all_eq_true] at h
  obtain ⟨⟨⟨⟨⟨h1, h2⟩, h3⟩, h4⟩, h5⟩, rfl⟩ := h
  rw [pys_map]
  refine ⟨h1, fun d hd e he => ?_, ?_, fun d hd => ?_, h5, rfl⟩
  · obtain ⟨x, hx, rfl⟩ := List.mem_map.mp hd
    obtain ⟨y, hy, rfl⟩ := List.mem_map.mp he
    exact h2 x hx y hy
  · unfold sortB at h3
    rw [Bool.or_eq_true, List.all_eq_true, List.all_eq_true] at h3
    rcases h3 with h3 | h3
    · refine .inl fun d hd => ?_
      obtain ⟨x, hx, rfl⟩ := List.mem_map.mp hd
      have := h3 x hx
      cases x with
      | tup xs => exact ⟨D.pys xs, rfl⟩
      | _ => cases this
    · refine .inr (.inr fun d hd => ?_)
      obtain ⟨x, hx, rfl⟩ := List.mem_map.mp hd
      have := h3 x hx
      cases x with
      | tup xs => cases this
      | non => cases this
      | ref k => exact (plains_mem h1 hx rfl).elim
      | obj _ _ _ => exact (plains_mem h1 hx rfl).elim
      | _ => exact ⟨fun e => (by cases e), fun xs e => (by cases e)⟩
  · obtain ⟨x, hx, rfl⟩ := List.mem_map.mp hd
    rw [py_depth]
    exact h4 x hx
theorem rc_sorted (hu : X.A.units + 66 < cLine) : CallR X (.builtin "sorted") (rC1 X.K reprL .sorted) := by
  rintro pins s σ H xs us Q I r ⟨x, rfl, Fb, m, d, r', hf, hx, ho, q⟩
  obtain ⟨u, rfl, rx⟩ := Vals.one r
  have key : ∀ (a : Addr) (vs : List V) (ds es : List D) (its : List Value) (T : String) (o : Obj) (n : Nat), u = .ref a → srtL ds = some es → r' = .lst es → RepL X.K Fb m H vs ds → Vals vs its → (T = "list" ∨ T = "tuple") → s.heap.get? a = some o → o.cls = .type T → o.data = .seq its.toArray n →
      wpAny (model X.prog X.w) X.A (call (.builtin "sorted") [u]) (EP X pins σ Q) X.xe s := by
    rintro a vs ds es its T o n rfl hs rfl rv r1 hT hob hc hdt
    obtain ⟨pl, hal, hsb, hdp, hl, rfl⟩ := srt_conds hs
    obtain ⟨as, rds⟩ := Dp.readsAll I (D.pys ds) vs its (rv.dp pl) r1
    have hlen : its.length ≤ sizeLine := by
      rw [← r1.length, rv.length, ← LIM_eq]
      exact hl
    have er : ∀ h' : PySem.Heap, (∀ b o, s.heap.get? b = some o → h'.get? b = some o) → EachIs (fun v d => ∃ as, Reads h' v d as) its (D.pys ds) := fun h' k => (each_reads rds).mono fun v d ⟨as, q⟩ => ⟨as, Reads.keeps k q⟩
    have room : ∀ d ∈ D.pys ds, X.A.in1.in1.units + d.depth < cLine := fun d hd => by
      have d64 := hdp d hd
      have two : X.A.in1.in1.units = X.A.units + 2 := rfl
      omega
    have few : its.toArray.size ≤ sizeLine := by rw [List.size_toArray]; exact hlen
    refine sorted_from (C := fun us z => us = its ∧ ∃ h' : PySem.Heap, z = { s with heap := h' } ∧ ∀ b o, s.heap.get? b = some o → h'.get? b = some o) (wpAny_collect_seq a hT hob hc hdt (fun h' k => ⟨rfl, h', rfl, k⟩) few) ?_
    rintro us z ⟨rfl, h', rfl, k⟩
    generalize hHP : sortingHeap (laidOut { s with heap := h' } us) h'.objs.size us = HP
    have keep : ∀ b o, s.heap.get? b = some o → HP.get? b = some o := fun b o e => hHP ▸ (laid_keeps (z := { s with heap := h' }) (k b o e)).1
    have S : SortsAt X.prog X.w X.A.in1.in1 { s with heap := HP } (dataKind HP (D.pys ds)) us :=
      hsb.elim (fun ht => sorts_tup (s := { s with heap := HP }) (er _ keep) hal ht room) fun hsb => SortsAt.data (s := { s with heap := HP }) (er _ keep) hal hsb room
    refine ⟨hlen, dataKind HP (D.pys ds), hHP ▸ S, ?_⟩
    have e1 := each_stand r1 rv
    have e0 : D.pys ds = (vs.zip ds).map fun b : V × D => D.py b.2 := by
      rw [pys_map]
      conv => lhs; rw [← zip_snd (l := vs) (k := ds) rv.length]
      rw [List.map_map]
      rfl
    have h1 : EachIs (fun v d => (dataKind HP (D.pys ds)).keyOf v = some (keyToks d)) us ((vs.zip ds).map fun b : V × D => D.py b.2) := by
      rw [← e0]
      exact each_keys hal (er _ keep)
    have out := sortVals_each (κ := dataKind HP (D.pys ds)) (rev := false) (fun b : V × D => (keyToks (D.py b.2) : (dataKind HP (D.pys ds)).α)) e1 (each_of_map (fun b : V × D => D.py b.2) h1)
    generalize hps : (vs.zip ds).mergeSort (sortLe (dataKind HP (D.pys ds)).toKeyOrd false fun b : V × D => (keyToks (D.py b.2) : (dataKind HP (D.pys ds)).α)) = ps at out
    have e2 : ps.map (·.2) = ds.mergeSort leD := by
      have e3 := sort_maps (r := sortLe (dataKind HP (D.pys ds)).toKeyOrd false fun b : V × D => (keyToks (D.py b.2) : (dataKind HP (D.pys ds)).α)) (s := leD) (fun b : V × D => b.2) (l := vs.zip ds) fun _ _ _ _ => rfl
      rw [hps, zip_snd rv.length] at e3
      exact e3
    obtain ⟨o1, o2⟩ := stand_out out
    rw [e2] at o2
    obtain ⟨ep, he⟩ := sortedHeap_at (h := laidOut { s with heap := h' } us) (a := h'.objs.size) (n := 0) (vs := us) (out := (sortVals (dataKind HP (D.pys ds)) false us us).toArray) (Heap.get?_push_size _ rfl)
    have hsz : (ps.map (·.1)).length ≤ sizeLine := by
      rw [o2.length, List.length_mergeSort, ← LIM_eq]
      exact hl
    have J : L2.Inv X pins σ H { s with heap := h' } := I.kept (t' := s.toks) k
    have hn : H h'.objs.size = none := J.hok.fresh (Nat.le_refl _)
    exact ⟨.ref _, upd H h'.objs.size (.lst (ps.map (·.1))), J.laid (t' := s.toks) (fun b o e => (laid_keeps (z := { s with heap := h' }) e).2 _) (Nat.le_refl _) ⟨hsz, _, ep, o1, he⟩, rfl, q _ _ (Evl.Ex.new hn) (rep_new_lst hf hn o2)⟩
  cases d with
  | lst ds =>
    obtain ⟨es, hs, rfl⟩ := Option.map_eq_some_iff.mp (show (srtL ds).map D.lst = some r' from ho)
    obtain ⟨a, vs, rfl, hv, rv⟩ := hx.lst_inv
    obtain ⟨its, r1, p, hz⟩ := I.list hv
    obtain ⟨o, h1, h2, n, h3⟩ := p.isList
    obtain rfl : u = .ref a := rx
    exact key a vs ds es its "list" o n rfl hs rfl rv r1 (.inl rfl) h1 h2 h3
  | tup ds =>
    obtain ⟨es, hs, rfl⟩ := Option.map_eq_some_iff.mp (show (srtL ds).map D.lst = some r' from ho)
    obtain ⟨a, vs, rfl, hv, rv⟩ := hx.tup_inv
    obtain ⟨its, r1, p, hz⟩ := I.tuple hv
    obtain ⟨o, h1, h2, n, h3⟩ := p
    obtain rfl : u = .ref a := rx
    exact key a vs ds es its "tuple" o n rfl hs rfl rv r1 (.inr rfl) h1 h2 h3
  | _ => cases ho
end
end Ev
end

section
set_option Elab.async false
set_option linter.all false
set_option maxRecDepth 100000
namespace Ev
variable [TabList]
open PySem L2
theorem fold_rep (xs : Array Nat) : ∀ (n : Nat) (acc : Array Nat), List.foldl (· ++ ·) acc (List.replicate n xs) = acc ++ (List.replicate n xs.toList).flatten.toArray
  | 0, acc => by simp
  | n + 1, acc => by
    rw [List.replicate_succ, List.foldl_cons, fold_rep xs n, List.replicate_succ, List.flatten_cons]
    apply Array.toList_inj.mp
    simp
/-! a tuple times an int: itself, or nothing -/
/-- a tuple's cell -/
abbrev tupCell (its : Array Value) (n : Nat) (dict : Option Addr) (slots : Array (Option Value)) : Obj := { cls := .type "tuple", dict, data := .seq its n, slots }
abbrev emptyTup : Obj := { cls := .type "tuple", data := .seq #[] }
/-- x is an index -/
abbrev Fits63 (x : Int) : Prop := (decide (x < -(2 ^ 63)) || decide (x ≥ 2 ^ 63)) = false
theorem fits1000 {x : Int} (lo : -1000 ≤ x) (hi : x ≤ 1000) : Fits63 x := by
  refine Bool.or_eq_false_iff.mpr ⟨decide_eq_false ?_, decide_eq_false ?_⟩ <;> omega
section
variable {l : Addr} {its : Array Value} {n : Nat} {dict : Option Addr} {slots : Array (Option Value)} {x : Int} {tok : Tok}
/-- nothing to repeat, or once: the tuple itself -/
theorem times_same (fits : Fits63 x) (same : (its.isEmpty || x == 1) = true) : Meets (Builtin.«tuple.__mul__» ⟨[.ref l, .int x tok], []⟩) fun _ R s => s.heap.get? l = some (tupCell its n dict slots) ∧ R (.ok (.ret (.ref l))) s :=
  .of_wp fun P w A R ⟨h, gens, drawn, toks, os⟩ ⟨cell, answer⟩ => by
    have index := AutoSeq1.idx_int
    wp_walk using (wpAny_loadPart' cell)
    refine wpAny_ite_false (decide_eq_false fun big => Bool.false_ne_true (fits.symm.trans big)) ?_
    wp_walk using (wpAny_loadPart' cell)
    exact ⟨_, rfl, answer⟩
/-- not once, and no times at all: a new empty tuple -/
theorem times_none (fits : Fits63 x) (other : (its.isEmpty || x == 1) = false) (none : (decide (x ≤ 0) || its.isEmpty) = true) :
    Meets (Builtin.«tuple.__mul__» ⟨[.ref l, .int x tok], []⟩) fun _ R s => s.heap.get? l = some (tupCell its n dict slots) ∧ R (.ok (.ret (.ref s.heap.objs.size))) { s with heap := s.heap.push emptyTup } :=
  .of_wp fun P w A R ⟨h, gens, drawn, toks, os⟩ ⟨cell, answer⟩ => by
    have index := AutoSeq1.idx_int
    wp_walk using (wpAny_loadPart' cell)
    refine wpAny_ite_false (decide_eq_false fun big => Bool.false_ne_true (fits.symm.trans big)) ?_
    wp_walk using (wpAny_loadPart' cell)
    exact ⟨_, rfl, answer⟩
end
section
variable {X : Cx}
/-- t * k asks int.__rmul__, which passes, and then tuple.__mul__ -/
theorem times_asks {P : Program} {w : World} {A : Around} {s : Shared} {Q E : Value → Shared → Prop} {l : Addr} {its : Array Value} {n : Nat} {dict : Option Addr} {slots : Array (Option Value)} {x : Int} {tok : Tok} {S : Spec} (cell : s.heap.get? l = some (tupCell its n dict slots))
    (does : Meets (Builtin.«tuple.__mul__» ⟨[.ref l, .int x tok], []⟩) S) (done : S A (wants Q E) s) : wpAny (model P w) A (binaryOp .Mult (.ref l) (.int x tok)) Q E s :=
  have tuple : s.TypeIs (.ref l) "tuple" := ⟨_, cell, rfl⟩
  have asked : wpAny (model P w) A (call (.builtin "tuple.__mul__") [.ref l, .int x tok]) Q E s := call_meets F.slot_tuple_mul tuple F.entry_tuple_mul (F.args_tuple_mul_2 _ _) does done
  have passed := call_meets F.slot_int_rmul (typeIs_int s x tok) F.entry_int_rmul (F.args_int_rmul_2 _ _) (int_rmul_tuple x tok l its n dict slots) ⟨cell, rfl, tuple, asked⟩
  wpAny_binaryOp_repeat_ref (by decide) tuple (fun z => typeIs_int z x tok) noFill_tuple_mul F.fills_int_mul F.slot_int_rmul repeat_tuple F.slot_int_index.lookup passed
theorem mul_tuple {pins : List (Addr × Obj)} {σ : St} {H : Hp} {s : Shared} {a : Addr} {vs : List V} {k : Int} {v u : Value} {Q : VK} (I : Inv X pins σ H s) (rx : RelV (.ref a) v) (ry : RelV (.int k) u) (row : SqT X.K H a vs)
    (lo : -1000 ≤ k) (hi : k ≤ 1000) (few : vs.length ≤ 1000) (same : (List.replicate k.toNat vs).flatten = vs → Q (.ref a) H) (q : ∀ p, H p = none → Q (.ref p) (upd H p (.tup (List.replicate k.toNat vs).flatten))) :
    wpAny (model X.prog X.w) X.A (binaryOp .Mult v u) (EP X pins σ Q) X.xe s := by
  by_cases many : vs ≠ [] ∧ 2 ≤ k
  · exact op_repT pins s σ H _ _ v u Q I rx ry ⟨a, k, vs, rfl, rfl, row, many.1, many.2, hi, few, q⟩
  obtain ⟨its, rel, ⟨⟨cls, dict, data, slots⟩, cell, kind, n, items⟩, _⟩ := I.tuple row
  dsimp only at kind items
  subst kind items
  cases rx
  obtain ⟨tok, rfl⟩ := ry
  have empty : its.toArray.isEmpty = true ↔ vs = [] := by
    cases rel
    · exact ⟨fun _ => rfl, fun _ => rfl⟩
    · exact ⟨fun h => (by cases h), fun h => (by cases h)⟩
  by_cases itself : vs = [] ∨ k = 1
  · have e : (List.replicate k.toNat vs).flatten = vs := by rcases itself with rfl | rfl <;> simp
    have b : (its.toArray.isEmpty || k == 1) = true := by rw [Bool.or_eq_true, empty, beq_iff_eq]; exact itself
    exact times_asks cell (times_same (fits1000 lo hi) b) ⟨cell, ⟨.ref a, H, I, rfl, same e⟩⟩
  · have ne : vs ≠ [] := fun e => itself (.inl e)
    have zero : k ≤ 0 := by
      have n1 : k ≠ 1 := fun e => itself (.inr e)
      have n2 : ¬2 ≤ k := fun h => many ⟨ne, h⟩
      omega
    have b : (its.toArray.isEmpty || k == 1) = false := Bool.eq_false_iff.mpr fun h => by
      rw [Bool.or_eq_true, empty, beq_iff_eq] at h
      exact itself h
    have c : (decide (k ≤ 0) || its.toArray.isEmpty) = true := by rw [decide_eq_true zero, Bool.true_or]
    refine times_asks cell (times_none (fits1000 lo hi) b c) ⟨cell, ⟨.ref s.heap.objs.size, _, I.laid (t' := s.toks) (o := .tup []) (fun b ob e => Heap.get?_push_of_some emptyTup e) (Nat.le_refl _) ⟨Nat.zero_le _, [], .nil, PyProof.Rows.IsTup.new _ _⟩, rfl, ?_⟩⟩
    have free := q _ (I.hok.fresh (Nat.le_refl _))
    rwa [Int.toNat_of_nonpos zero] at free
theorem mulOk_or {i j : Int} (h : mulOk i j = true) : CMul i j ∨ CMulW i j := by
  unfold mulOk at h
  simp only [Bool.or_eq_true, decide_eq_true_eq] at h
  rcases h with (h | h) | h
  · exact .inl (.inl (by omega))
  · exact .inl (.inr (by omega))
  · exact .inr h
theorem mulOk_ok {i j : Int} (h : mulOk i j = true) : IntMulOk i j := (mulOk_or h).elim CMul.ok CMulW.ok
theorem ro_mul : OpR X (binaryOp .Mult) (rO2 X.K .mul) := by
  rintro pins s σ H x y v u Q I rx ry ⟨Fb, m, d, e, r, hf, hx, hy, ho, q⟩
  cases d <;> cases e <;> simp only [o2, reduceCtorEq, Option.some.injEq, Option.ite_none_right_eq_some, repOk, Bool.and_eq_true, decide_eq_true_eq] at ho
  · obtain ⟨hm, rfl⟩ := ho
    obtain rfl := hx.int_inv
    obtain rfl := hy.int_inv
    rcases mulOk_or hm with hm | hm
    · exact op_mul pins s σ H _ _ v u Q I rx ry ⟨_, _, rfl, rfl, hm, q _ _ (Evl.Ex.refl _) (.int _)⟩
    · exact op_mulW pins s σ H _ _ v u Q I rx ry ⟨_, _, rfl, rfl, hm, q _ _ (Evl.Ex.refl _) (.int _)⟩
  · rename_i z k
    obtain ⟨⟨⟨h1, h2⟩, h3⟩, rfl⟩ := ho
    obtain rfl := hx.str_inv
    obtain rfl := hy.int_inv
    obtain ⟨t, rfl⟩ := rx
    obtain ⟨t', rfl⟩ := ry
    have hlen : z.length ≤ 1000 := h1
    have hmul : k.toNat * z.length ≤ 1000 * 1000 := Nat.mul_le_mul (by omega) hlen
    refine PySem.P.mul_str (by rw [decide_eq_false (by omega), decide_eq_false (by omega)]; rfl) (fun a b => ?_) (fun a b => ?_) ?_
    · have hk0 : (0 : Int) < k := by omega
      have : (1000 : Int) ≤ (2 ^ 63 - 1) / k := (Int.le_ediv_iff_mul_le hk0).mpr (by omega)
      omega
    · unfold Builtin.Str.tooLong
      rw [sizeLine_eq]
      have hc : z.length * k.toNat ≤ 1000000 := by rw [Nat.mul_comm]; exact hmul
      first
        | exact decide_eq_false (by omega)
        | simp; omega
    · have fin : ∀ (y : Str) (tk : Tok), y = ⟨(List.replicate k.toNat z.cps.toList).flatten.toArray⟩ → ∀ n, EP X pins σ Q (.str y tk) { s with toks := n } := fun y tk e n => by
        rw [e]
        exact ⟨.str _, H, I.tok n, ⟨_, rfl⟩, q _ _ (Evl.Ex.refl _) (.str _)⟩
      by_cases hk : k < 1
      · rw [if_pos hk]
        refine ⟨by decide, fin _ _ ?_ _⟩
        have e0 : k.toNat = 0 := by omega
        rw [e0]
        rfl
      · rw [if_neg hk]
        by_cases hz : (k == 1 || z.length == 0) = true
        · rw [if_pos hz]
          refine fin _ _ ?_ s.toks
          rcases Bool.or_eq_true_iff.mp hz with e | e
          · obtain rfl := beq_iff_eq.mp e
            simp
          · have e0 : z.cps = #[] := Array.size_eq_zero_iff.mp (beq_iff_eq.mp e)
            cases z
            simp only at e0
            subst e0
            simp
        · rw [if_neg hz]
          refine ⟨?_, fin _ _ ?_ _⟩
          · show Array.size _ ≤ sizeLine
            rw [fold_rep, Array.size_append, List.size_toArray, List.size_toArray, sizeLine_eq]
            have : ((List.replicate k.toNat z.cps.toList).flatten).length = k.toNat * z.length := by
              rw [List.length_flatten, List.map_replicate, List.sum_replicate_nat]
              rfl
            rw [this]
            show 0 + _ ≤ _
            omega
          · rw [fold_rep]
            simp
  · rename_i ds k
    obtain ⟨⟨⟨h1, h2⟩, h3⟩, rfl⟩ := ho
    obtain ⟨a, vs, rfl, hv, rv⟩ := hx.tup_inv
    obtain rfl := hy.int_inv
    refine mul_tuple I rx ry hv h3 h2 (by rw [rv.length]; exact h1) (fun e => ?_) fun p hp => q _ _ (Evl.Ex.new hp) (rep_new_tup hp (rv.rep _))
    have := rv.rep k.toNat
    rw [e] at this
    exact q _ _ (Evl.Ex.refl _) (.tup hv this)
end
end Ev
end

section
set_option Elab.async false
set_option linter.all false
set_option maxRecDepth 100000
namespace Ev
open PySem L2
variable [TabList]

/-- a list that stands while the cells change: tracked and no cell, or written -/
def Bor (K : PySem.W.Frag) (m : List Addr) (H : Hp) (a : Addr) (vs : List V) : Prop := (Rd H a (.lst vs) ∧ a ∉ m) ∨ SqL K (fun _ => none) a vs
theorem written_sql {K : PySem.W.Frag} {H : Hp} {a : Addr} {vs : List V} (h : SqL K (fun _ => none) a vs) : SqL K H a vs := by
  obtain (h | ⟨o, h⟩) | h := h
  · cases h
  · cases h
  · exact .inr h
theorem Bor.sql {K : PySem.W.Frag} {m : List Addr} {H : Hp} {a : Addr} {vs : List V} (h : Bor K m H a vs) : SqL K H a vs := by
  rcases h with ⟨h, _⟩ | h
  · exact .inl h
  · exact written_sql h
/-- the object o stands for d -/
def Of (K : PySem.W.Frag) (Fb : Addr → Prop) (m : List Addr) (H : Hp) (o : HO) : D → Prop
  | .lst ds => ∃ vs, o = .lst vs ∧ RepL K Fb m H vs ds
  | .obj c ns ds => ∃ dx vs, o = .ins (TabList.cls c) dx (ns.zip vs) ∧ vs.length = ns.length ∧ RepL K Fb m H vs ds
  | _ => False
/-- seen for a moment, while expressions go on -/
inductive RepW (K : PySem.W.Frag) (Fb : Addr → Prop) (m : List Addr) (H : Hp) : V → D → Prop
  | of {v : V} {d : D} : Rep K Fb m H v d → RepW K Fb m H v d
  | lst {a : Addr} {vs : List V} {ds : List D} : Bor K m H a vs → RepL K Fb m H vs ds → RepW K Fb m H (.ref a) (.lst ds)
  | own {a : Addr} {o : HO} {d : D} : H a = some o → a ∉ m → Of K Fb m H o d → RepW K Fb m H (.ref a) d
section
variable {K : PySem.W.Frag} {Fb Fb' : Addr → Prop} {m m' : List Addr} {H H' : Hp} {o : HO} {d : D}
theorem Of.dat (h : Of K Fb m H o d) : Dat o := by
  cases d with
  | lst ds =>
    obtain ⟨vs, rfl, _⟩ := h
    trivial
  | obj c ns ds =>
    obtain ⟨dx, vs, rfl, _, _⟩ := h
    trivial
  | _ => exact h.elim
theorem Of.imp (f : ∀ vs ds, RepL K Fb m H vs ds → RepL K Fb' m' H' vs ds) (h : Of K Fb m H o d) : Of K Fb' m' H' o d := by
  cases d with
  | lst ds =>
    obtain ⟨vs, e, r⟩ := h
    exact ⟨vs, e, f _ _ r⟩
  | obj c ns ds =>
    obtain ⟨dx, vs, e, l, r⟩ := h
    exact ⟨dx, vs, e, l, f _ _ r⟩
  | _ => exact h.elim
/-- .. as a value that changes no more -/
theorem Of.rep {a : Addr} (h : Of K Fb m H o d) (ha : H a = some o) (n : ¬ Fb a) : Rep K Fb m H (.ref a) d := by
  cases d with
  | lst ds =>
    obtain ⟨vs, rfl, r⟩ := h
    exact .lst ha n r
  | obj c ns ds =>
    obtain ⟨dx, vs, rfl, l, r⟩ := h
    exact .obj ha n l r
  | _ => exact h.elim
theorem Of.repV {a : Addr} (h : Of K Fb m H o d) (ha : H a = some o) : RepV K Fb m H (.ref a) d := by
  cases d with
  | lst ds =>
    obtain ⟨vs, rfl, r⟩ := h
    exact .lst (.inl (.inl ha)) r
  | obj c ns ds =>
    obtain ⟨dx, vs, rfl, l, r⟩ := h
    exact .obj ha l r
  | _ => exact h.elim
theorem Of.lst_inv {ds : List D} (h : Of K Fb m H o (.lst ds)) : ∃ vs, o = .lst vs ∧ RepL K Fb m H vs ds := h
end
/-- an error in hand (it, its attributes' dict, its class), a lambda in hand (it, its code, its name) -/
structure Yx where
  ex : Option (Addr × Addr × Nat)
  act : Option (Addr × Addr × Str)
/-- what stays as it is while a def's body runs: what must not be caught, the heap at the entry, the cells then -/
structure Gh where
  Pr : Addr → Prop
  H0 : Hp
  m0 : List Addr
  y : Yx
def isOwn (env : Env) (σ : St) (a : Addr) : Prop := ∃ (i : Nat) (d : D), env[i]? = some (.own d) ∧ σ[i]? = some (some (.ref a))
def Fbd (g : Gh) (env : Env) (σ : St) (m : List Addr) : Addr → Prop := fun a => g.Pr a ∨ isOwn env σ a ∨ a ∈ m
def SlotOk (K : PySem.W.Frag) (g : Gh) (env : Env) (m : List Addr) (σ : St) (H : Hp) (i : Nat) : Sl → Prop
  | .none => True
  | .val d => ∃ v, σ[i]? = some (some v) ∧ Rep K (Fbd g env σ m) m H v d
  | .own d => ∃ a o, σ[i]? = some (some (.ref a)) ∧ H a = some o ∧ Of K (Fbd g env σ m) m H o d ∧ g.H0 a = none ∧ a ∉ m ∧ ¬ g.Pr a
  | .bor d => ∃ a vs ds, σ[i]? = some (some (.ref a)) ∧ d = .lst ds ∧ Bor K m H a vs ∧ RepL K (Fbd g env σ m) m H vs ds ∧ (g.H0 a = none → SqL K (fun _ => none) a vs)
  | .exc c ns fs => ∃ a dx vs, σ[i]? = some (some (.ref a)) ∧ g.y.ex = some (a, dx, c) ∧ H dx = some (.xd (ns.zip vs)) ∧ vs.length = ns.length ∧ RepL K (Fbd g env σ m) m H vs fs
  | .act => ∃ f c q, σ[i]? = some (some (.ref f)) ∧ g.y.act = some (f, c, q) ∧ H c = some (LamX.CodeO c q)
/-- env, hp stand for σ, H -/
structure StRel (K : PySem.W.Frag) (g : Gh) (env : Env) (hp : Heap) (m : List Addr) (σ : St) (H : Hp) : Prop where
  len : env.length = σ.length
  slots : ∀ i x, env[i]? = some x → SlotOk K g env m σ H i x
  apart : ∀ (i j : Nat) (d e : D) (a : Addr), env[i]? = some (.own d) → env[j]? = some (.own e) → σ[i]? = some (some (.ref a)) → σ[j]? = some (some (.ref a)) → i = j
  cells : m.length = hp.length
  cell : ∀ (k : Nat) (d : D), hp[k]? = some d → ∃ a o, m[k]? = some a ∧ H a = some o ∧ Of K (Fbd g env σ m) m H o d
  nd : m.Nodup
  pr : ∀ a, g.Pr a → H a ≠ none
  frame : ∀ a o, g.H0 a = some o → a ∉ g.m0 → NT o → H a = some o
  more : ∃ r, m = g.m0 ++ r ∧ ∀ a ∈ r, g.H0 a = none
  tabs : LamX.Tabs TabList.T H
  has : ∀ a, g.H0 a ≠ none → H a ≠ none
/-- what an expression may do to the heap -/
structure Step (m : List Addr) (H : Hp) (m' : List Addr) (H' : Hp) : Prop where
  more : ∃ r, m' = m ++ r ∧ ∀ a ∈ r, H a = none
  keep : ∀ a o (_ : H a = some o) (_ : a ∉ m) (_ : NT o := by intro ps z; cases z), H' a = some o
  there : ∀ a o, H a = some o → ∃ o', H' a = some o'
  tabs : ∀ _ : Unit, LamX.Tabs TabList.T H → LamX.Tabs TabList.T H'
theorem has_ext {H H' : Hp} (e : Ext H H') {a : Addr} (h : H a ≠ none) : H' a ≠ none := by
  cases q : H a with
  | none => exact absurd q h
  | some o =>
    rw [e a o q]
    simp
theorem has_upd {H : Hp} {a b : Addr} {o : HO} (h : H b ≠ none) : upd H a o b ≠ none := by
  by_cases e : b = a
  · rw [e, upd_same]
    simp
  · rw [upd_ne e]
    exact h
/-- none as yet, or such as a value may be -/
def Free (H : Hp) (a : Addr) : Prop := H a = none ∨ ∃ o, H a = some o ∧ Dat o
theorem Free.ne {H : Hp} {a b : Addr} {o : HO} (f : Free H a) (h : H b = some o) (nd : ¬ Dat o) : b ≠ a := fun e => by
  subst e
  rcases f with z | ⟨u, z, hd⟩
  · rw [z] at h
    cases h
  · rw [h] at z
    exact nd (Option.some.inj z ▸ hd)
theorem tbl_nd {ps : Array Value} : ¬ Dat (.tbl ps) := fun h => h
theorem code_nd {c : Addr} {q : Str} : ¬ Dat (LamX.CodeO c q) := fun h => h
theorem code_nt {c : Addr} {q : Str} : NT (LamX.CodeO c q) := fun ps z => by
  unfold LamX.CodeO at z
  cases z
theorem tabs_upd {T : List (Addr × Str)} {H : Hp} {a : Addr} {o : HO} (t : LamX.Tabs T H) (ha : Free H a) : LamX.Tabs T (upd H a o) := fun p hp => by
  obtain ⟨ps, h1, h2, h3⟩ := t p hp
  refine ⟨ps, by rw [upd_ne (ha.ne h1 tbl_nd)]; exact h1, h2, fun pos cv hc => ?_⟩
  have ⟨c, e1, e2⟩ := h3 pos cv hc
  refine ⟨c, e1, ?_⟩
  rw [upd_ne (ha.ne e2 code_nd)]
  exact e2
section
variable {K : PySem.W.Frag} {g : Gh} {env : Env} {hp hp' : Heap} {m m' m'' : List Addr} {σ : St} {H H' H'' : Hp}
/-- a slot's fact moves along -/
theorem SlotOk.move {g' : Gh} {env' : Env} {σ' : St} {i : Nat} {x : Sl} (h : SlotOk K g env m σ H i x) (hs : σ'[i]? = σ[i]?) (h0 : g'.H0 = g.H0) (hy : g'.y = g.y) (rv : ∀ v d, Rep K (Fbd g env σ m) m H v d → Rep K (Fbd g' env' σ' m') m' H' v d)
    (rl : ∀ vs ds, RepL K (Fbd g env σ m) m H vs ds → RepL K (Fbd g' env' σ' m') m' H' vs ds)
    (ow : ∀ d a o, x = .own d → σ[i]? = some (some (.ref a)) → H a = some o → Dat o → g.H0 a = none → a ∉ m → ¬ g.Pr a → H' a = some o ∧ a ∉ m' ∧ ¬ g'.Pr a)
    (bo : ∀ a vs, (g.H0 a = none → SqL K (fun _ => none) a vs) → Bor K m H a vs → Bor K m' H' a vs)
    (fx : ∀ a o, H a = some o → ¬ Dat o → NT o → H' a = some o) : SlotOk K g' env' m' σ' H' i x := by
  cases x with
  | none => trivial
  | val d =>
    obtain ⟨v, h1, h2⟩ := h
    exact ⟨v, hs.trans h1, rv _ _ h2⟩
  | own d =>
    obtain ⟨a, o, h1, h2, h3, h4, h5, h6⟩ := h
    obtain ⟨k1, k2, k3⟩ := ow d a o rfl h1 h2 h3.dat h4 h5 h6
    exact ⟨a, o, hs.trans h1, k1, h3.imp rl, by rw [h0]; exact h4, k2, k3⟩
  | bor d =>
    obtain ⟨a, vs, ds, h1, h2, h3, h4, h5⟩ := h
    exact ⟨a, vs, ds, hs.trans h1, h2, bo _ _ h5 h3, rl _ _ h4, by rw [h0]; exact h5⟩
  | exc c ns fs =>
    obtain ⟨a, dx, vs, h1, h2, h3, h4, h5⟩ := h
    exact ⟨a, dx, vs, hs.trans h1, by rw [hy]; exact h2, fx _ _ h3 (fun z => z) (fun _ z => by cases z), h4, rl _ _ h5⟩
  | act =>
    obtain ⟨f, c, q, h1, h2, h3⟩ := h
    exact ⟨f, c, q, hs.trans h1, by rw [hy]; exact h2, fx _ _ h3 code_nd code_nt⟩
theorem Step.refl : Step m H m H := ⟨⟨[], by simp, by simp⟩, fun _ _ h _ _ => h, fun _ o h => ⟨o, h⟩, fun _ t => t⟩
theorem Step.ext (e : Ext H H') : Step m H m H' := ⟨⟨[], by simp, by simp⟩, fun a o h _ _ => e a o h, fun a o h => ⟨o, e a o h⟩, fun _ t => t.ext e⟩
theorem Step.trans (a : Step m H m' H') (b : Step m' H' m'' H'') : Step m H m'' H'' := by
  obtain ⟨⟨r, e1, f1⟩, k1, t1, u1⟩ := a
  obtain ⟨⟨q, e2, f2⟩, k2, t2, u2⟩ := b
  subst e1 e2
  refine ⟨⟨r ++ q, by simp, fun x hx => ?_⟩, fun x o h n nt => ?_, fun x o h => ?_, fun T t => u2 T (u1 T t)⟩
  · obtain h | h := List.mem_append.mp hx
    · exact f1 x h
    · cases e : H x with
      | none => rfl
      | some o =>
        obtain ⟨o', h'⟩ := t1 x o e
        rw [f2 x h] at h'
        cases h'
  · refine k2 x o (k1 x o h n nt) (fun hm => ?_) nt
    obtain z | z := List.mem_append.mp hm
    · exact n z
    · rw [f1 x z] at h
      cases h
  · obtain ⟨o', h'⟩ := t1 x o h
    exact t2 x o' h'
theorem Step.fresh (s : Step m H m' H') {a : Addr} (h : H' a = none) : H a = none := by
  cases e : H a with
  | none => rfl
  | some o =>
    obtain ⟨o', h'⟩ := s.there a o e
    rw [h] at h'
    cases h'
theorem Step.get (s : Step m H m' H') {k : Nat} {a : Addr} (h : m[k]? = some a) : m'[k]? = some a := by
  obtain ⟨⟨r, e, _⟩, _, _, _⟩ := s
  subst e
  obtain ⟨hl, hv⟩ := List.getElem?_eq_some_iff.mp h
  rw [List.getElem?_append_left hl]
  exact h
/-- the cells are objects that values may be -/
def Cellar (m : List Addr) (H : Hp) : Prop := ∀ a ∈ m, ∃ o, H a = some o ∧ Dat o
theorem Cellar.off (hm : Cellar m H) {a : Addr} {o : HO} (h : H a = some o) (nd : ¬ Dat o) : a ∉ m := fun z => by
  obtain ⟨u, e, hd⟩ := hm a z
  rw [h] at e
  exact nd (Option.some.inj e ▸ hd)
theorem StRel.at_m (S : StRel K g env hp m σ H) : Cellar m H := fun a h => by
  obtain ⟨k, hk⟩ := List.mem_iff_getElem?.mp h
  have hl : k < hp.length := by
    rw [← S.cells]
    exact (List.getElem?_eq_some_iff.mp hk).1
  obtain ⟨b, o, h1, h2, h3⟩ := S.cell k hp[k] (List.getElem?_eq_getElem hl)
  rw [hk] at h1
  cases h1
  exact ⟨o, h2, h3.dat⟩
theorem Step.fix (hm : Cellar m H) (s : Step m H m' H') {a : Addr} {o : HO} (h : H a = some o) (nd : ¬ Dat o) (nt : NT o) : H' a = some o := s.keep a o h (hm.off h nd) nt
/-- tuples stay -/
theorem sqt_step (hm : Cellar m H) (s : Step m H m' H') {a : Addr} {vs : List V} (h : SqT K H a vs) : SqT K H' a vs := by
  obtain (h | ⟨o, h⟩) | h := h
  · exact .inl (.inl (s.fix hm h (fun z => z) fun _ z => by cases z))
  · exact .inl (.inr ⟨o, s.fix hm h (fun z => z) fun _ z => by cases z⟩)
  · exact .inr h
theorem Step.off (s : Step m H m' H') {a : Addr} {o : HO} (h : H a = some o) (n : a ∉ m) : a ∉ m' := by
  obtain ⟨⟨r, e, f⟩, _, _, _⟩ := s
  subst e
  intro z
  rcases List.mem_append.mp z with q | q
  · exact n q
  · rw [f a q] at h
    cases h
theorem Bor.step (s : Step m H m' H') {a : Addr} {vs : List V} (h : Bor K m H a vs) : Bor K m' H' a vs := by
  rcases h with ⟨h | ⟨o, h⟩, n⟩ | h
  · exact .inl ⟨.inl (s.keep a _ h n), s.off h n⟩
  · exact .inl ⟨.inr ⟨o, s.keep a _ h n⟩, s.off h n⟩
  · exact .inr h
theorem fbd_step (s : Step m H m' H') {a : Addr} {o : HO} (h : H a = some o) (n : ¬ Fbd g env σ m a) : ¬ Fbd g env σ m' a := by
  obtain ⟨⟨r, e, f⟩, _, _, _⟩ := s
  subst e
  rintro (z | z | z)
  · exact n (.inl z)
  · exact n (.inr (.inl z))
  · rcases List.mem_append.mp z with q | q
    · exact n (.inr (.inr q))
    · rw [f a q] at h
      cases h
theorem Rep.step (hm : Cellar m H) (s : Step m H m' H') {v : V} {d : D} (r : Rep K (Fbd g env σ m) m H v d) : Rep K (Fbd g env σ m') m' H' v d :=
  r.move (fun _ _ h => sqt_step hm s h) (fun a o h hd n => ⟨s.keep a _ h (fun z => n (.inr (.inr z))) hd.nt, fbd_step s h n⟩) fun _ _ h => s.get h
theorem RepL.step (hm : Cellar m H) (s : Step m H m' H') {v : List V} {d : List D} (r : RepL K (Fbd g env σ m) m H v d) : RepL K (Fbd g env σ m') m' H' v d :=
  r.move (fun _ _ h => sqt_step hm s h) (fun a o h hd n => ⟨s.keep a _ h (fun z => n (.inr (.inr z))) hd.nt, fbd_step s h n⟩) fun _ _ h => s.get h
theorem RepW.step (hm : Cellar m H) (s : Step m H m' H') {v : V} {d : D} (r : RepW K (Fbd g env σ m) m H v d) : RepW K (Fbd g env σ m') m' H' v d := by
  cases r with
  | of r => exact .of (r.step hm s)
  | lst h r => exact .lst (h.step s) (r.step hm s)
  | own h n r => exact .own (s.keep _ _ h n r.dat.nt) (s.off h n) (r.imp fun _ _ r => r.step hm s)
theorem RepW.v {Fb : Addr → Prop} {v : V} {d : D} (r : RepW K Fb m H v d) : RepV K Fb m H v d := by
  cases r with
  | of r => exact .of r
  | lst h r => exact .lst h.sql r
  | own h _ r => exact r.repV h
/-- a slot's fact behind a step, the own lists the same -/
theorem SlotOk.step {i : Nat} {x : Sl} (hm : Cellar m H) (s : Step m H m' H') (h : SlotOk K g env m σ H i x) : SlotOk K g env m' σ H' i x :=
  h.move rfl rfl rfl (fun _ _ r => r.step hm s) (fun _ _ r => r.step hm s) (fun _ a o _ _ e hd _ n p => ⟨s.keep a o e n hd.nt, s.off e n, p⟩) (fun _ _ _ b => b.step s) fun a o e nd nt => s.fix hm e nd nt
/-- what is forbidden is there -/
theorem StRel.fb (S : StRel K g env hp m σ H) : ∀ a, Fbd g env σ m a → H a ≠ none := by
  rintro a (h | ⟨i, d, h1, h2⟩ | h)
  · exact S.pr a h
  · obtain ⟨b, o, e1, e2, _⟩ := S.slots i _ h1
    rw [h2] at e1
    cases e1
    rw [e2]
    simp
  · obtain ⟨o, e, _⟩ := S.at_m a h
    rw [e]
    simp
/-- the cells as they stand, read through -/
theorem RepV.cell (S : StRel K g env hp m σ H) {v : V} {d e : D} (r : RepV K (Fbd g env σ m) m H v d) (h : deref hp d = some e) : RepV K (Fbd g env σ m) m H v e := by
  cases d with
  | ref k =>
    obtain ⟨e0, h0, h1⟩ := Option.bind_eq_some_iff.mp (show (hp[k]?).bind cellD = some e from h)
    obtain rfl : e0 = e := by
      cases e0 <;> first | (cases h1; rfl) | cases h1
    obtain ⟨a, o, e1, e2, rv⟩ := S.cell k _ h0
    cases r with
    | of r =>
      cases r with
      | ref h2 =>
        rw [e1] at h2
        cases h2
        exact rv.repV e2
  | _ =>
    obtain rfl := Option.some.inj (show some _ = some e from h)
    exact r
/-- new objects alone -/
theorem StRel.ext (S : StRel K g env hp m σ H) (e : Ext H H') : StRel K g env hp m σ H' := by
  have st : Step m H m H' := Step.ext e
  refine ⟨S.len, fun i x hx => (S.slots i x hx).step S.at_m st, S.apart, S.cells, fun k d h => ?_, S.nd, fun a h => has_ext e (S.pr a h), fun a o h n nt => e a o (S.frame a o h n nt), S.more, S.tabs.ext e, fun a h => has_ext e (S.has a h)⟩
  obtain ⟨a, o, h1, h2, h3⟩ := S.cell k d h
  exact ⟨a, o, h1, e a _ h2, h3.imp fun _ _ r => r.step S.at_m st⟩
end
end Ev
end

section
set_option Elab.async false
set_option linter.all false
set_option maxRecDepth 100000
namespace Ev
open PySem L2
variable [TabList]

section
variable {K : PySem.W.Frag} {g : Gh} {env env' : Env} {hp hp' : Heap} {m m' : List Addr} {σ σ' : St} {H H' : Hp}
/-- the same own lists -/
def SameOwn (env : Env) (σ : St) (env' : Env) (σ' : St) : Prop := ∀ a, isOwn env' σ' a ↔ isOwn env σ a
theorem SameOwn.refl : SameOwn env σ env σ := fun _ => Iff.rfl
theorem SameOwn.trans {env'' : Env} {σ'' : St} (a : SameOwn env σ env' σ') (b : SameOwn env' σ' env'' σ'') : SameOwn env σ env'' σ'' := fun x => (b x).trans (a x)
theorem SameOwn.fbd (h : SameOwn env σ env' σ') : Fbd g env' σ' m = Fbd g env σ m := by
  funext a
  unfold Fbd
  rw [propext (h a)]
theorem isOwn_set {i : Nat} {x : Sl} {o : Option V} (hx : ∀ d, x ≠ .own d) (hi : ∀ d, env[i]? ≠ some (.own d)) : SameOwn env σ (env.set i x) (σ.set i o) := by
  intro a
  constructor
  · rintro ⟨j, d, h1, h2⟩
    by_cases e : i = j
    · subst e
      rw [List.getElem?_set] at h1
      simp only [if_true] at h1
      split at h1
      · exact absurd (Option.some.inj h1) (hx d)
      · cases h1
    · rw [List.getElem?_set_ne e] at h1 h2
      exact ⟨j, d, h1, h2⟩
  · rintro ⟨j, d, h1, h2⟩
    have e : i ≠ j := fun z => by
      subst z
      exact hi d h1
    exact ⟨j, d, by rw [List.getElem?_set_ne e]; exact h1, by rw [List.getElem?_set_ne e]; exact h2⟩
theorem notOwn_of {o : Option Sl} (h : ¬ isOwnSl o = true) : ∀ d, o ≠ some (.own d) := fun d e => by
  subst e
  exact h rfl
/-- a slot gets a value (or nothing); the slot was no own list -/
theorem StRel.put (S : StRel K g env hp m σ H) {i : Nat} {x : Sl} {o : Option V} (hi : ∀ d, env[i]? ≠ some (.own d)) (hx : ∀ d, x ≠ .own d) (hok : i < env.length → SlotOk K g (env.set i x) m (σ.set i o) H i x) :
    StRel K g (env.set i x) hp m (σ.set i o) H := by
  have so : SameOwn env σ (env.set i x) (σ.set i o) := isOwn_set hx hi
  have fb : Fbd g (env.set i x) (σ.set i o) m = Fbd g env σ m := so.fbd
  refine ⟨by rw [List.length_set, List.length_set]; exact S.len, fun j y hj => ?_, fun j l d e a h1 h2 h3 h4 => ?_, S.cells, fun k xs h => ?_, S.nd, S.pr, S.frame, S.more, S.tabs, S.has⟩
  · by_cases e : i = j
    · subst e
      have hl : i < env.length := by
        have := (List.getElem?_eq_some_iff.mp hj).1
        rwa [List.length_set] at this
      rw [List.getElem?_set_self hl] at hj
      cases hj
      exact hok hl
    · rw [List.getElem?_set_ne e] at hj
      exact (S.slots j y hj).move (List.getElem?_set_ne e) rfl rfl (fun _ _ r => by rw [fb]; exact r) (fun _ _ r => by rw [fb]; exact r) (fun _ a o _ _ e _ _ n p => ⟨e, n, p⟩) (fun _ _ _ b => b) fun _ _ e _ _ => e
  · have ne : ∀ {n : Nat} {d : D}, (env.set i x)[n]? = some (.own d) → i ≠ n := fun {n d} h z => by
      subst z
      rw [List.getElem?_set] at h
      simp only [if_true] at h
      split at h
      · exact absurd (Option.some.inj h) (hx d)
      · cases h
    have e1 := ne h1
    have e2 := ne h2
    rw [List.getElem?_set_ne e1] at h1 h3
    rw [List.getElem?_set_ne e2] at h2 h4
    exact S.apart j l d e a h1 h2 h3 h4
  · rw [fb]
    exact S.cell k xs h
theorem StRel.putVal (S : StRel K g env hp m σ H) {i : Nat} {d : D} {v : V} (hi : ¬ isOwnSl env[i]? = true) (r : Rep K (Fbd g env σ m) m H v d) :
    StRel K g (env.set i (.val d)) hp m (σ.set i (some v)) H ∧ SameOwn env σ (env.set i (.val d)) (σ.set i (some v)) := by
  have so : SameOwn env σ (env.set i (.val d)) (σ.set i (some v)) := isOwn_set (fun _ e => by cases e) (notOwn_of hi)
  refine ⟨S.put (notOwn_of hi) (fun _ e => by cases e) fun hl => ⟨v, ?_, ?_⟩, so⟩
  · rw [List.getElem?_set_self (by rw [← S.len]; exact hl)]
  · rw [so.fbd]
    exact r
theorem StRel.putNone (S : StRel K g env hp m σ H) {i : Nat} (hi : ¬ isOwnSl env[i]? = true) :
    StRel K g (env.set i .none) hp m (σ.set i none) H ∧ SameOwn env σ (env.set i .none) (σ.set i none) :=
  ⟨S.put (notOwn_of hi) (fun _ e => by cases e) fun _ => trivial, isOwn_set (fun _ e => by cases e) (notOwn_of hi)⟩
/-- the same own lists, another heap: what the statement around has stays -/
theorem StRel.back (S : StRel K g env hp m σ H) (S' : StRel K g env' hp' m' σ' H') (so : SameOwn env σ env' σ') (st : Step m H m' H') : StRel K g env hp' m' σ H' := by
  have fb : Fbd g env' σ' m' = Fbd g env σ m' := so.fbd
  refine ⟨S.len, fun i x hx => (S.slots i x hx).step S.at_m st, S.apart, S'.cells, fun k xs h => ?_, S'.nd, S'.pr, S'.frame, S'.more, S'.tabs, S'.has⟩
  rw [← fb]
  exact S'.cell k xs h
end

/-! ### what comes of an evaluation -/
/-- P of its value, X of its error -/
def RR {α : Type} (r : R α) (P : α → Heap → Prop) (X : Nat → List Str → List D → Heap → Prop) : Prop := match r with
  | none => False
  | some (.ok a h) => P a h
  | some (.err c ns fs h) => X c ns fs h
section
variable {α β : Type} {r : R α} {P P' : α → Heap → Prop} {X X' : Nat → List Str → List D → Heap → Prop}
theorem RR.imp (h : RR r P X) (hp : ∀ a h, P a h → P' a h) (hx : ∀ c ns fs h, X c ns fs h → X' c ns fs h) : RR r P' X' := by
  cases r with
  | none => exact h
  | some o => cases o with
    | ok a h' => exact hp _ _ h
    | err c ns fs h' => exact hx _ _ _ _ h
theorem RR.val (h : RR r P X) (hp : ∀ a h, r = some (.ok a h) → P a h → P' a h) : RR r P' X := by
  cases r with
  | none => exact h
  | some o => cases o with
    | ok a h' => exact hp _ _ rfl h
    | err c ns fs h' => exact h
theorem RR_bind {f : α → Heap → R β} {P : β → Heap → Prop} : RR (R.bind r f) P X = RR r (fun a h => RR (f a h) P X) X := by
  cases r with
  | none => rfl
  | some o => cases o <;> rfl
theorem RR.bind {f : α → Heap → R β} {P : β → Heap → Prop} (h : RR (R.bind r f) P X) : RR r (fun a h => RR (f a h) P X) X := by
  rw [RR_bind] at h
  exact h
theorem RR.lift {o : Option D} {h : Heap} {P : D → Heap → Prop} (e : RR (lift h o) P X) : ∃ d, o = some d ∧ P d h := by
  cases o with
  | none => exact e.elim
  | some d => exact ⟨d, rfl, e⟩
theorem RR.calm (h : RR (calmly r) P X) : ∃ a h', r = some (.ok a h') ∧ P a h' := by
  cases r with
  | none => exact h.elim
  | some o => cases o with
    | ok a h' => exact ⟨a, h', rfl, h⟩
    | err c ns fs h' => exact h.elim
theorem RR.un (h : RR (calmly r) P X) : RR r P X' := by
  obtain ⟨a, h', rfl, p⟩ := h.calm
  exact p
theorem RR.unIf {o : Op2} (h : RR (calmIf o r) P X) : RR r P X := by
  cases o <;> first | exact h | exact h.un
theorem RR.of {a : α} {h : Heap} (e : r = some (.ok a h)) (p : P a h) : RR r P X := by
  subst e
  exact p
end
/-- an equation between evaluations, taken apart -/
theorem bind_some {α β : Type} {x : R α} {f : α → Heap → R β} {b : β} {h : Heap} (e : R.bind x f = some (.ok b h)) : ∃ a h1, x = some (.ok a h1) ∧ f a h1 = some (.ok b h) := by
  cases x with
  | none => cases e
  | some o =>
    cases o with
    | ok a h1 => exact ⟨a, h1, rfl, e⟩
    | err _ _ _ _ => cases e
theorem lift_ok {o : Option D} {d : D} {h h' : Heap} (e : lift h o = some (.ok d h')) : o = some d ∧ h' = h := by
  cases o with
  | none => cases e
  | some x =>
    cases e
    exact ⟨rfl, rfl⟩
/-! ### readings by the evaluator -/
/-- what calls are, what is wanted of an error, what is in hand -/
structure Yd where
  Γ : Gm
  W : WX
  y : Yx
/-- an error that leaves: its class, its attributes -/
def XP (K : PySem.W.Frag) (Y : Yd) (g : Gh) (env : Env) (σ : St) (m : List Addr) (H : Hp) (c : Nat) (ns : List Str) (fs : List D) (hp' : Heap) : Prop :=
  ∀ H' m' d vs, StRel K g env hp' m' σ H' → Step m H m' H' → H' d = some (.xd (ns.zip vs)) → vs.length = ns.length → RepL K (Fbd g env σ m') m' H' vs fs → Y.W (.ref (TabList.cls c)) (some d) σ H'
theorem XP.step {K : PySem.W.Frag} {Y : Yd} {g : Gh} {env : Env} {σ : St} {m m1 : List Addr} {H H1 : Hp} (s : Step m H m1 H1) {c : Nat} {ns : List Str} {fs : List D} {hp' : Heap} (x : XP K Y g env σ m H c ns fs hp') : XP K Y g env σ m1 H1 c ns fs hp' :=
  fun H' m' d vs S st e l r => x H' m' d vs S (s.trans st) e l r
variable (K : PySem.W.Frag) (Y : Yd) (g : Gh)
def tE (c : E) : TE := fun σ H Q => ∃ env hp m, StRel K g env hp m σ H ∧ RR (evE reprL Y.Γ c env hp) (fun d hp' =>
  ∀ v H' m', StRel K g env hp' m' σ H' → Step m H m' H' → Rep K (Fbd g env σ m') m' H' v d → Q v H') (XP K Y g env σ m H)
def tV (c : E) : TE := fun σ H Q => ∃ env hp m, StRel K g env hp m σ H ∧ RR (evE reprL Y.Γ c env hp) (fun d hp' =>
  ∀ v H' m', StRel K g env hp' m' σ H' → Step m H m' H' → RepW K (Fbd g env σ m') m' H' v d → Q v H') (XP K Y g env σ m H)
def tT (c : E) : TT := fun σ H Q => ∃ env hp m, StRel K g env hp m σ H ∧ RR (evE reprL Y.Γ c env hp) (fun d hp' => ∃ b, d = .bl b ∧
  ∀ H' m', StRel K g env hp' m' σ H' → Step m H m' H' → Q b H') (XP K Y g env σ m H)
def tEs (cs : List E) : TA := fun σ H Q => ∃ env hp m, StRel K g env hp m σ H ∧ RR (evEs reprL Y.Γ cs env hp) (fun ds hp' =>
  ∀ vs H' m', StRel K g env hp' m' σ H' → Step m H m' H' → RepL K (Fbd g env σ m') m' H' vs ds → Q vs H') (XP K Y g env σ m H)
variable {K Y g}
section
variable {X : Cx} {e : Expr} {c : E}
theorem peWeak {t t' : TE} (h : PE X e t) (i : ∀ σ H Q, t' σ H Q → t σ H Q) : PE X e t' := ⟨fun pins s σ H Q I q => h.run pins s σ H Q I (i _ _ _ q)⟩
theorem ptWeak {t t' : TT} (h : PT X e t) (i : ∀ σ H Q, t' σ H Q → t σ H Q) : PT X e t' := ⟨fun pins s σ H Q I q => h.run pins s σ H Q I (i _ _ _ q)⟩
theorem paWeak {es : List Expr} {t t' : TA} (h : PA X es t) (i : ∀ σ H Q, t' σ H Q → t σ H Q) : PA X es t' := ⟨fun pos pins s σ H Q I q => h.run pos pins s σ H Q I (i _ _ _ q)⟩
theorem peV (h : PE X e (tE K Y g c)) : PE X e (tV K Y g c) := peWeak h fun σ H Q ⟨env, hp, m, S, ev⟩ => ⟨env, hp, m, S, ev.imp (fun d hp' q v H' m' S' st r => q v H' m' S' st (.of r)) fun _ _ _ _ x => x⟩
/-! two operands -/
theorem sE_op2 {f : Value → Value → Sem Value} {o : Op2} {a b : E} {σ : St} {H : Hp} {Q : VK} (q : tE K Y g (.op2 o a b) σ H Q) : tOp (rO2 K o) (tV K Y g a) (tV K Y g b) σ H Q := by
  obtain ⟨env, hp, m, S, ev⟩ := q
  have ev := RR.bind (r := evE reprL Y.Γ a env hp) ev
  refine ⟨env, hp, m, S, ev.imp (fun x h1 ev v1 H1 m1 S1 st1 r1 => ⟨env, h1, m1, S1, (RR.bind (r := calmIf o (evE reprL Y.Γ b env h1)) ev).unIf.imp (fun y h2 ev v2 H2 m2 S2 st2 r2 => ?_) fun _ _ _ _ x => x.step st1⟩) fun _ _ _ _ x => x⟩
  obtain ⟨d, e3, q⟩ := ev.lift
  obtain ⟨x', d1, e3⟩ := Option.bind_eq_some_iff.mp e3
  obtain ⟨y', d2, e3⟩ := Option.bind_eq_some_iff.mp e3
  refine ⟨Fbd g env σ m2, m2, x', y', d, S2.fb, (r1.step S1.at_m st2).v.cell S2 d1, r2.v.cell S2 d2, e3, fun v H' ex r => ?_⟩
  exact q v H' m2 (S2.ext ex) ((st1.trans st2).trans (Step.ext ex)) r
theorem sE_op1 {o : Op1} {a : E} {σ : St} {H : Hp} {Q : VK} (q : tE K Y g (.op1 o a) σ H Q) : tV K Y g a σ H fun x H1 => rO1 K reprL o x H1 Q := by
  obtain ⟨env, hp, m, S, ev⟩ := q
  have ev := RR.bind (r := evE reprL Y.Γ a env hp) ev
  refine ⟨env, hp, m, S, ev.imp (fun x h1 ev v1 H1 m1 S1 st1 r1 => ?_) fun _ _ _ _ x => x⟩
  obtain ⟨d, e3, q⟩ := ev.lift
  obtain ⟨x', d1, e3⟩ := Option.bind_eq_some_iff.mp e3
  exact ⟨Fbd g env σ m1, m1, x', d, S1.fb, r1.v.cell S1 d1, e3, fun v H' ex r => q v H' m1 (S1.ext ex) (st1.trans (Step.ext ex)) r⟩
end
end Ev
end

section
set_option Elab.async false
set_option linter.all false
set_option maxRecDepth 100000
namespace Ev
open PySem L2
variable [TabList]
section
variable {Γ : Gm} {Y : Yd} {g : Gh} {X : Cx}
theorem rok_inj {α : Type} {a b : α} {h h' : Heap} (e : some (Out.ok a h) = some (Out.ok b h')) : a = b ∧ h = h' := by
  cases e
  exact ⟨rfl, rfl⟩
theorem evEs_len : ∀ {cs : List E} {env : Env} {hp hp' : Heap} {ds : List D}, evEs reprL Γ cs env hp = some (.ok ds hp') → ds.length = cs.length
  | [], _, _, _, _, e => by
    obtain ⟨rfl, rfl⟩ := rok_inj e
    rfl
  | c :: cs, env, hp, hp', ds, e => by
    obtain ⟨x, h1, e1, ev⟩ := bind_some (show R.bind (evE reprL Γ c env hp) _ = _ from e)
    obtain ⟨xs, h2, e2, ev⟩ := bind_some ev
    obtain ⟨rfl, rfl⟩ := rok_inj ev
    rw [List.length_cons, List.length_cons, evEs_len e2]
/-! ### what is read, what is fixed -/
theorem e_val {e : Expr} {v : V} {d : D} (h : PE X e (tC v)) (r : ∀ Fb m H, Rep X.K Fb m H v d) : PE X e (tE X.K Y g (.cst d)) := peWeak h fun σ H Q ⟨env, hp, m, S, ev⟩ =>
  (show ∀ v H' m', StRel X.K g env hp m' σ H' → Step m H m' H' → Rep X.K (Fbd g env σ m') m' H' v d → Q v H' from ev) _ _ m S Step.refl (r _ _ _)
/-- a slot that is read -/
theorem slot_RR {K : PySem.W.Frag} {Y : Yd} {env : Env} {σ : St} {m : List Addr} {H : Hp} {hp : Heap} {f : Option Sl → Option D} {i : Nat} {P : D → Heap → Prop} (h0 : f none = none) (ev : RR (lift hp (f env[i]?)) P (XP K Y g env σ m H)) : ∃ x d, env[i]? = some x ∧ f (some x) = some d ∧ P d hp := by
  obtain ⟨d, e, q⟩ := ev.lift
  cases hx : env[i]? with
  | none =>
    rw [hx, h0] at e
    cases e
  | some x =>
    rw [hx] at e
    exact ⟨x, d, rfl, e, q⟩
theorem e_var {i : Nat} {x : Str} {pos : Pos} (hN : X.N[i]? = some x) (hv : Vis X.env.scope x) (hd : (x == ("__debug__" : Str)) = false) (hcd : (x == ("__classdict__" : Str)) = false) : PE X (.Name x pos) (tE X.K Y g (.var i)) :=
  peWeak (pe_var hN hv hd hcd) fun σ H Q ⟨env, hp, m, S, ev⟩ => by
    obtain ⟨x, d, hx, e, q⟩ := slot_RR (f := Sl.get) rfl ev
    cases x with
    | val d' =>
      obtain rfl := Option.some.inj (show some d' = some d from e)
      obtain ⟨v, h1, h2⟩ := S.slots i _ hx
      exact ⟨v, h1, q v H m S Step.refl h2⟩
    | _ => cases e
theorem own_repW {K : PySem.W.Frag} {env : Env} {σ : St} {m : List Addr} {H : Hp} {hp : Heap} {i : Nat} {d : D} (S : StRel K g env hp m σ H) (hx : env[i]? = some (.own d)) : ∃ a, σ[i]? = some (some (.ref a)) ∧ RepW K (Fbd g env σ m) m H (.ref a) d ∧ ¬ g.Pr a ∧ g.H0 a = none := by
  obtain ⟨a, o, h1, h3, h4, h5, h6, h7⟩ := S.slots i _ hx
  exact ⟨a, h1, .own h3 h6 h4, h7, h5⟩
theorem see_inv {d : D} {x : Sl} (h : Sl.see (some x) = some d) : x = .val d ∨ x = .own d ∨ x = .bor d := by
  cases x <;> first | cases h | skip
  · exact .inl rfl
  · exact .inr (.inl rfl)
  · exact .inr (.inr rfl)
theorem e_view {i : Nat} {x : Str} {pos : Pos} (hN : X.N[i]? = some x) (hv : Vis X.env.scope x) (hd : (x == ("__debug__" : Str)) = false) (hcd : (x == ("__classdict__" : Str)) = false) : PE X (.Name x pos) (tV X.K Y g (.view i)) :=
  peWeak (pe_var hN hv hd hcd) fun σ H Q ⟨env, hp, m, S, ev⟩ => by
    obtain ⟨x, d, hx, e, q⟩ := slot_RR (f := Sl.see) rfl ev
    rcases see_inv e with rfl | rfl | rfl
    · obtain ⟨v, h1, h2⟩ := S.slots i _ hx
      exact ⟨v, h1, q v H m S Step.refl (.of h2)⟩
    · obtain ⟨a, h1, h2, _⟩ := own_repW S hx
      exact ⟨.ref a, h1, q _ H m S Step.refl h2⟩
    · obtain ⟨a, vs, ds, h1, rfl, h3, h4, h5⟩ := S.slots i _ hx
      exact ⟨.ref a, h1, q _ H m S Step.refl (.lst h3 h4)⟩
theorem e_peek {i : Nat} {x : Str} {pos : Pos} (hN : X.N[i]? = some x) (hv : Vis X.env.scope x) (hd : (x == ("__debug__" : Str)) = false) (hcd : (x == ("__classdict__" : Str)) = false) : PE X (.Name x pos) (tV X.K Y g (.peek i)) :=
  peWeak (e_view (Y := Y) (g := g) hN hv hd hcd) fun σ H Q ⟨env, hp, m, S, ev⟩ => by
    obtain ⟨x, d, hx, e, q⟩ := slot_RR (f := Sl.peek) rfl ev
    refine ⟨env, _, m, S, ?_⟩
    show RR (lift hp (Sl.see env[i]?)) _ _
    have : Sl.see env[i]? = some d := by
      rw [hx]
      cases x <;> first | exact e | cases e
    rw [this]
    exact q
/-! ### lists of expressions -/
def notStar : Expr → Bool
  | .Starred .. => false
  | _ => true
theorem star_cons {e : Expr} (h : notStar e = true) (es : List Expr) (env : PySem.Env) : starEach (e :: es) env = (false, eval e env) :: starEach es env := by
  cases e <;> first | rfl | cases h
theorem es_nil : PA X [] (tEs X.K Y g []) := paWeak pa_nil fun σ H Q ⟨env, hp, m, S, ev⟩ =>
  (show ∀ vs H' m', StRel X.K g env hp m' σ H' → Step m H m' H' → RepL X.K (Fbd g env σ m') m' H' vs [] → Q vs H' from ev) _ _ m S Step.refl .nil
theorem es_cons {e : Expr} {es : List Expr} {c : E} {cs : List E} (h : PE X e (tE X.K Y g c)) (hs : PA X es (tEs X.K Y g cs)) (ns : notStar e = true) : PA X (e :: es) (tEs X.K Y g (c :: cs)) :=
  paWeak (pa_cons h hs (star_cons ns es X.env)) fun σ H Q ⟨env, hp, m, S, ev⟩ => by
    have ev := RR.bind (r := evE reprL Y.Γ c env hp) ev
    refine ⟨env, hp, m, S, ev.imp (fun x h1 ev v1 H1 m1 S1 st1 r1 => ⟨env, h1, m1, S1, (RR.bind (r := evEs reprL Y.Γ cs env h1) ev).imp (fun xs h2 ev vs H2 m2 S2 st2 r2 => ?_) fun _ _ _ _ x => x.step st1⟩) fun _ _ _ _ x => x⟩
    exact ev _ H2 m2 S2 (st1.trans st2) (.cons (r1.step S1.at_m st2) r2)
theorem e_tup {es : List Expr} {cs : List E} {k : Nat} {pos : Pos} (h : PA X es (tEs X.K Y g cs)) (hl : cs.length ≤ sizeLine) (el : es.length = cs.length) : PE X (.Tuple es k pos) (tE X.K Y g (.tup cs)) :=
  peWeak (pe_tup h) fun σ H Q ⟨env, hp, m, S, ev⟩ => by
    have ev := RR.bind (r := evEs reprL Y.Γ cs env hp) ev
    refine ⟨env, hp, m, S, ev.val fun xs h1 e1 ev vs H1 m1 S1 st1 r1 => ⟨?_, fun p np => ?_⟩⟩
    · rw [r1.length, evEs_len e1]
      exact hl
    · exact ev _ _ m1 (S1.ext (Evl.Ex.new np)) (st1.trans (Step.ext (Evl.Ex.new np))) (rep_new_tup np r1)
theorem e_lst {es : List Expr} {cs : List E} {pos : Pos} (h : PA X es (tEs X.K Y g cs)) (hl : cs.length ≤ sizeLine) : PE X (.List es pos) (tE X.K Y g (.lst cs)) :=
  peWeak (pe_lst h) fun σ H Q ⟨env, hp, m, S, ev⟩ => by
    have ev := RR.bind (r := evEs reprL Y.Γ cs env hp) ev
    refine ⟨env, hp, m, S, ev.val fun xs h1 e1 ev vs H1 m1 S1 st1 r1 => ⟨?_, fun p np => ?_⟩⟩
    · rw [r1.length, evEs_len e1]
      exact hl
    · exact ev _ _ m1 (S1.ext (Evl.Ex.new np)) (st1.trans (Step.ext (Evl.Ex.new np))) (rep_new_lst S1.fb np r1)
/-! ### a test's choices -/
/-- a truth value, then what hangs on it -/
theorem RR.bool {r : R D} {β : Type} {P : β → Heap → Prop} {Xr : Nat → List Str → List D → Heap → Prop} {P' : D → Heap → Prop} {f : D → Heap → R β} (ev : RR (R.bind r f) P Xr) (hf : ∀ d h, (∃ b, d = .bl b) ∨ f d h = none) (k : ∀ b h, RR (f (.bl b) h) P Xr → P' (.bl b) h) : RR r P' Xr :=
  (RR.bind ev).imp (fun d h ev => by
    rcases hf d h with ⟨b, rfl⟩ | z
    · exact k b h ev
    · rw [z] at ev
      exact ev.elim) fun _ _ _ _ x => x
section
variable {K : PySem.W.Frag} {env : Env} {hp : Heap} {P : D → Heap → Prop} {Xr : Nat → List Str → List D → Heap → Prop} {a b t : E}
theorem RR.and {P' : D → Heap → Prop} (ev : RR (evE reprL Γ (.and a b) env hp) P Xr) (kt : ∀ h, RR (evE reprL Γ b env h) P Xr → P' (.bl true) h) (kf : ∀ h, P (.bl false) h → P' (.bl false) h) : RR (evE reprL Γ a env hp) P' Xr :=
  RR.bool (show RR (R.bind (evE reprL Γ a env hp) _) P Xr from ev) (fun d h => by cases d <;> first | exact .inl ⟨_, rfl⟩ | exact .inr rfl) fun z h ev => by
    cases z with
    | true => exact kt h ev
    | false => exact kf h ev
theorem RR.or {P' : D → Heap → Prop} (ev : RR (evE reprL Γ (.or a b) env hp) P Xr) (kf : ∀ h, RR (evE reprL Γ b env h) P Xr → P' (.bl false) h) (kt : ∀ h, P (.bl true) h → P' (.bl true) h) : RR (evE reprL Γ a env hp) P' Xr :=
  RR.bool (show RR (R.bind (evE reprL Γ a env hp) _) P Xr from ev) (fun d h => by cases d <;> first | exact .inl ⟨_, rfl⟩ | exact .inr rfl) fun z h ev => by
    cases z with
    | false => exact kf h ev
    | true => exact kt h ev
theorem RR.ite {P' : D → Heap → Prop} (ev : RR (evE reprL Γ (.ite t a b) env hp) P Xr) (kt : ∀ h, RR (evE reprL Γ a env h) P Xr → P' (.bl true) h) (kf : ∀ h, RR (evE reprL Γ b env h) P Xr → P' (.bl false) h) : RR (evE reprL Γ t env hp) P' Xr :=
  RR.bool (show RR (R.bind (evE reprL Γ t env hp) _) P Xr from ev) (fun d h => by cases d <;> first | exact .inl ⟨_, rfl⟩ | exact .inr rfl) fun z h ev => by
    cases z with
    | false => exact kf h ev
    | true => exact kt h ev
end
theorem e_and {a b : Expr} {x y : E} {pos : Pos} {rest : List Expr} (ha : PE X a (tE X.K Y g x)) (hb : PE X (.BoolOp .And (b :: rest) pos) (tE X.K Y g y)) : PE X (.BoolOp .And (a :: b :: rest) pos) (tE X.K Y g (.and x y)) :=
  peWeak (pe_and ha hb) fun σ H Q ⟨env, hp, m, S, ev⟩ => by
    refine ⟨env, hp, m, S, ev.and (fun h1 ev v H1 m1 S1 st1 r1 => ?_) fun h1 ev v H1 m1 S1 st1 r1 => ?_⟩
    · cases r1
      exact ⟨true, rfl, iteT ⟨env, h1, m1, S1, ev.imp (fun d hp' q v H2 m2 S2 st2 r2 => q v H2 m2 S2 (st1.trans st2) r2) fun _ _ _ _ x => x.step st1⟩⟩
    · cases r1
      exact ⟨false, rfl, iteF (ev _ H1 m1 S1 st1 (.bl _))⟩
theorem e_or {a b : Expr} {x y : E} {pos : Pos} {rest : List Expr} (ha : PE X a (tE X.K Y g x)) (hb : PE X (.BoolOp .Or (b :: rest) pos) (tE X.K Y g y)) : PE X (.BoolOp .Or (a :: b :: rest) pos) (tE X.K Y g (.or x y)) :=
  peWeak (pe_or ha hb) fun σ H Q ⟨env, hp, m, S, ev⟩ => by
    refine ⟨env, hp, m, S, ev.or (fun h1 ev v H1 m1 S1 st1 r1 => ?_) fun h1 ev v H1 m1 S1 st1 r1 => ?_⟩
    · cases r1
      exact ⟨false, rfl, iteF ⟨env, h1, m1, S1, ev.imp (fun d hp' q v H2 m2 S2 st2 r2 => q v H2 m2 S2 (st1.trans st2) r2) fun _ _ _ _ x => x.step st1⟩⟩
    · cases r1
      exact ⟨true, rfl, iteT (ev _ H1 m1 S1 st1 (.bl _))⟩
/-- of a truth value -/
theorem bl_some {P : Bool → Prop} {b : Bool} (h : ∃ z, D.bl b = D.bl z ∧ P z) : P b := by
  obtain ⟨z, e, p⟩ := h
  cases e
  exact p
theorem w_and {a b : Expr} {x y : E} {pos : Pos} {rest : List Expr} (ha : PT X a (tT X.K Y g x)) (hb : PW X (.BoolOp .And (b :: rest) pos) (tT X.K Y g y)) : PW X (.BoolOp .And (a :: b :: rest) pos) (tT X.K Y g (.and x y)) := by
  refine ⟨fun whole pins s σ H Q I h => (pw_and ha hb).run whole pins s σ H Q I ?_⟩
  obtain ⟨env, hp, m, S, ev⟩ := h
  refine ⟨env, hp, m, S, ev.and (fun h1 ev => ⟨true, rfl, fun H1 m1 S1 st1 => iteT ⟨env, h1, m1, S1, ev.imp (fun d hp' q => ?_) fun _ _ _ _ x => x.step st1⟩⟩) fun h1 ev => ⟨false, rfl, fun H1 m1 S1 st1 => iteF (bl_some (P := fun z => ∀ H' m', StRel X.K g env h1 m' σ H' → Step m H m' H' → Q z H') ev H1 m1 S1 st1)⟩⟩
  obtain ⟨z, rfl, q⟩ := q
  exact ⟨z, rfl, fun H2 m2 S2 st2 => q H2 m2 S2 (st1.trans st2)⟩
theorem w_or {a b : Expr} {x y : E} {pos : Pos} {rest : List Expr} (ha : PT X a (tT X.K Y g x)) (hb : PW X (.BoolOp .Or (b :: rest) pos) (tT X.K Y g y)) : PW X (.BoolOp .Or (a :: b :: rest) pos) (tT X.K Y g (.or x y)) := by
  refine ⟨fun whole pins s σ H Q I h => (pw_or ha hb).run whole pins s σ H Q I ?_⟩
  obtain ⟨env, hp, m, S, ev⟩ := h
  refine ⟨env, hp, m, S, ev.or (fun h1 ev => ⟨false, rfl, fun H1 m1 S1 st1 => iteF ⟨env, h1, m1, S1, ev.imp (fun d hp' q => ?_) fun _ _ _ _ x => x.step st1⟩⟩) fun h1 ev => ⟨true, rfl, fun H1 m1 S1 st1 => iteT (bl_some (P := fun z => ∀ H' m', StRel X.K g env h1 m' σ H' → Step m H m' H' → Q z H') ev H1 m1 S1 st1)⟩⟩
  obtain ⟨z, rfl, q⟩ := q
  exact ⟨z, rfl, fun H2 m2 S2 st2 => q H2 m2 S2 (st1.trans st2)⟩
theorem e_ite {t a b : Expr} {z x y : E} {pos : Pos} (ht : PT X t (tT X.K Y g z)) (ha : PE X a (tE X.K Y g x)) (hb : PE X b (tE X.K Y g y)) : PE X (.IfExp t a b pos) (tE X.K Y g (.ite z x y)) :=
  peWeak (pe_ifExp ht ha hb) fun σ H Q ⟨env, hp, m, S, ev⟩ =>
    ⟨env, hp, m, S, ev.ite (fun h1 ev => ⟨true, rfl, fun H1 m1 S1 st1 => iteT ⟨env, h1, m1, S1, ev.imp (fun d hp' q v H2 m2 S2 st2 r2 => q v H2 m2 S2 (st1.trans st2) r2) fun _ _ _ _ x => x.step st1⟩⟩)
      fun h1 ev => ⟨false, rfl, fun H1 m1 S1 st1 => iteF ⟨env, h1, m1, S1, ev.imp (fun d hp' q v H2 m2 S2 st2 r2 => q v H2 m2 S2 (st1.trans st2) r2) fun _ _ _ _ x => x.step st1⟩⟩⟩
theorem v_ite {t a b : Expr} {z x y : E} {pos : Pos} (ht : PT X t (tT X.K Y g z)) (ha : PE X a (tV X.K Y g x)) (hb : PE X b (tV X.K Y g y)) : PE X (.IfExp t a b pos) (tV X.K Y g (.ite z x y)) :=
  peWeak (pe_ifExp ht ha hb) fun σ H Q ⟨env, hp, m, S, ev⟩ =>
    ⟨env, hp, m, S, ev.ite (fun h1 ev => ⟨true, rfl, fun H1 m1 S1 st1 => iteT ⟨env, h1, m1, S1, ev.imp (fun d hp' q v H2 m2 S2 st2 r2 => q v H2 m2 S2 (st1.trans st2) r2) fun _ _ _ _ x => x.step st1⟩⟩)
      fun h1 ev => ⟨false, rfl, fun H1 m1 S1 st1 => iteF ⟨env, h1, m1, S1, ev.imp (fun d hp' q v H2 m2 S2 st2 r2 => q v H2 m2 S2 (st1.trans st2) r2) fun _ _ _ _ x => x.step st1⟩⟩⟩
/-- a test by its value -/
theorem t_val {e : Expr} {c : E} (h : PE X e (tV X.K Y g c)) (hs : ∀ whole : Sem Value, PySem.isTrue e X.env whole = (do let v ← whole; standAt e.pos; holding [v] (truthy v))) : PT X e (tT X.K Y g c) :=
  ptWeak (pt_val h hs) fun σ H Q ⟨env, hp, m, S, ev⟩ => ⟨env, hp, m, S, ev.imp (fun d hp' ⟨b, e, q⟩ v H1 m1 S1 st1 r1 => by
    subst e
    obtain rfl := r1.v.bl_inv
    exact ⟨b, rfl, q H1 m1 S1 st1⟩) fun _ _ _ _ x => x⟩
theorem not_inv {h : Heap} {x d : D} (e : (deref h x).bind (o1 reprL .not) = some d) : ∃ z x', deref h x = some x' ∧ x' = .bl z ∧ d = .bl (!z) := by
  obtain ⟨x', d1, e4⟩ := Option.bind_eq_some_iff.mp e
  cases x' <;> simp only [o1, reduceCtorEq, Option.some.injEq] at e4
  exact ⟨_, _, d1, rfl, e4.symm⟩
theorem t_not {e : Expr} {c : E} {pos : Pos} (h : PT X e (tT X.K Y g c)) : PT X (.UnaryOp .Not e pos) (tT X.K Y g (.op1 .not c)) :=
  ptWeak (pt_not h) fun σ H Q ⟨env, hp, m, S, ev⟩ => by
    have ev := RR.bind (r := evE reprL Y.Γ c env hp) ev
    refine ⟨env, hp, m, S, ev.imp (fun x h1 ev => ?_) fun _ _ _ _ x => x⟩
    obtain ⟨d, e3, b, rfl, q⟩ := ev.lift
    obtain ⟨z, x', d1, rfl, e4⟩ := not_inv e3
    cases e4
    cases x with
    | bl z' =>
      cases d1
      exact ⟨z, rfl, q⟩
    | ref k =>
      obtain ⟨e0, _, h1⟩ := Option.bind_eq_some_iff.mp (show (h1[k]?).bind cellD = some (D.bl z) from d1)
      cases e0 <;> cases h1
    | _ => cases d1
theorem e_not {e : Expr} {c : E} {pos : Pos} (h : PE X e (tV X.K Y g c)) : PE X (.UnaryOp .Not e pos) (tE X.K Y g (.op1 .not c)) :=
  peWeak (pe_not h) fun σ H Q q => by
    obtain ⟨env, hp, m, S, ev⟩ := sE_op1 q
    refine ⟨env, hp, m, S, ev.imp (fun d hp' ev v H1 m1 S1 st1 r1 => ?_) fun _ _ _ _ x => x⟩
    obtain ⟨Fb, m2, x, r, hf, hx, ho, qq⟩ := ev v H1 m1 S1 st1 r1
    cases x <;> simp only [o1, reduceCtorEq, Option.some.injEq] at ho
    subst ho
    obtain rfl := hx.bl_inv
    exact ⟨_, rfl, qq _ _ (Evl.Ex.refl _) (.bl _)⟩
/-! ### operators -/
theorem e_bin {op : Operator} {o : Op2} {a b : Expr} {x y : E} {pos : Pos} (ho : OpR X (binaryOp op) (rO2 X.K o)) (ha : PE X a (tV X.K Y g x)) (hb : PE X b (tV X.K Y g y)) : PE X (.BinOp a op b pos) (tE X.K Y g (.op2 o x y)) :=
  peWeak (pe_op ho ha hb) fun _ _ _ q => sE_op2 (f := binaryOp op) q
theorem e_cmp {op : CmpOp} {o : Op2} {a b : Expr} {x y : E} {pos : Pos} (ho : OpR X (compareOp op) (rO2 X.K o)) (ha : PE X a (tV X.K Y g x)) (hb : PE X b (tV X.K Y g y)) (hm : behindInMarks op b = false) : PE X (.Compare a [op] [b] pos) (tE X.K Y g (.op2 o x y)) :=
  peWeak (pe_cmpR ho ha hb hm) fun _ _ _ q => sE_op2 (f := compareOp op) q
theorem t_cmp {op : CmpOp} {o : Op2} {a b : Expr} {x y : E} {pos : Pos} (ho : OpR X (compareOp op) (rO2 X.K o)) (ha : PE X a (tV X.K Y g x)) (hb : PE X b (tV X.K Y g y)) (hm : behindInMarks op b = false) : PT X (.Compare a [op] [b] pos) (tT X.K Y g (.op2 o x y)) :=
  ptWeak (pt_cmpR ho ha hb hm) fun σ H Q ⟨env, hp, m, S, ev⟩ => by
    refine sE_op2 (Q := fun v H1 => _) (f := compareOp op) ⟨env, hp, m, S, ev.imp (fun d hp' ⟨b, e, q⟩ v H1 m1 S1 st1 r1 => ?_) fun _ _ _ _ x => x⟩
    subst e
    cases r1
    exact ⟨b, rfl, q H1 m1 S1 st1⟩
theorem e_ix {a b : Expr} {x y : E} {pos : Pos} (ha : PE X a (tV X.K Y g x)) (hb : PE X b (tV X.K Y g y)) (hs : PlainIx b) : PE X (.Subscript a b pos) (tE X.K Y g (.op2 .ix x y)) :=
  peWeak (pe_ix ro_ix ha hb hs) fun _ _ _ q => sE_op2 (f := getItem) q
end
end Ev
end

section
set_option Elab.async false
set_option linter.all false
set_option maxRecDepth 100000
namespace Ev
open PySem L2 HT
variable [TabList]
/-! ### a tuple turned round -/
section
variable {prog : Program} {w : World} {s : Shared} {A : Around} {E : Value → Shared → Prop}
theorem applied_back {sl : Addr} {vl vu vs : Value} {n : Nat} {Q : Int × Int × Nat → Shared → Prop} (hs : s.heap.IsSliceOf sl vl vu vs) (pl : IsPart vl none) (pu : IsPart vu none) (ps : IsPart vs (some (-1)))
    (h : Q ((n : Int) - 1, -1, n) s) : wpAny (model prog w) A (Builtin.Slice.sliceApplied (.ref sl) (pure (n : Int))) Q E s := by
  obtain ⟨ob, hob, hcl, hdt⟩ := id hs
  unfold Builtin.Slice.sliceApplied
  unfold Builtin.Slice.sliceFields
  refine wpAny_bind (wpAny_bind (wpAny_field hob hdt (x := vl) rfl (wpAny_bind (wpAny_field hob hdt (x := vu) rfl (wpAny_bind (wpAny_field hob hdt (x := vs) rfl (wpAny_pure ?_)))))))
  refine wpAny_bind (slicePart_ ps ?_)
  show wpAny _ _ (if ((-1 : Int) == 0) = true then _ else _) _ _ s
  rw [if_neg (by decide)]
  refine wpAny_bind (slicePart_ pl ?_)
  refine wpAny_bind (slicePart_ pu (wpAny_bind (wpAny_pure ?_)))
  show wpAny _ _ (pure ((n : Int) - 1, (-1 : Int), Builtin.Slice.slicePlaces ((n : Int) - 1) (-1) (-1))) _ _ s
  have e : Builtin.Slice.slicePlaces ((n : Int) - 1) (-1) (-1) = n := by
    simp only [Builtin.Slice.slicePlaces]
    try rw [if_neg (by decide)]
    by_cases hn : n = 0
    · subst hn
      rfl
    · rw [if_pos (by omega)]
      have : ((n : Int) - 1 - -1 - 1) / (- -1) + 1 = n := by
        rw [Int.neg_neg, Int.ediv_one]
        omega
      rw [this]
      exact Int.toNat_natCast n
  rw [e]
  exact wpAny_pure h
theorem fm_map {α β : Type} {f : α → Option β} {k : α → β} : ∀ l : List α, (∀ x ∈ l, f x = some (k x)) → l.filterMap f = l.map k
  | [], _ => rfl
  | x :: l, h => by rw [List.filterMap_cons, h x List.mem_cons_self, fm_map l fun y hy => h y (List.mem_cons_of_mem _ hy), List.map_cons]
theorem pick_back (xs : Array Value) : ((List.range xs.size).filterMap fun (k : Nat) => xs[((xs.size : Int) - 1 + (k : Int) * (-1)).toNat]?).toArray = xs.toList.reverse.toArray := by
  congr 1
  have h : ∀ k ∈ List.range xs.size, xs[((xs.size : Int) - 1 + (k : Int) * (-1)).toNat]? = some (xs.toList.reverse.getD k .none) := fun k hk => by
    have hk : k < xs.size := List.mem_range.mp hk
    have e : ((xs.size : Int) - 1 + (k : Int) * (-1)).toNat = xs.size - 1 - k := by omega
    have hl : k < xs.toList.reverse.length := by simpa using hk
    rw [e, List.getD_eq_getElem?_getD, List.getElem?_eq_getElem hl]
    have hl2 : xs.size - 1 - k < xs.size := by omega
    rw [Array.getElem?_eq_getElem hl2]
    simp [List.getElem_reverse]
  rw [fm_map _ h]
  apply List.ext_getElem
  · simp
  · intro i h1 h2
    rw [List.getElem_map, List.getD_eq_getElem?_getD, List.getElem_range, List.getElem?_eq_getElem h2]
    rfl
theorem getItem_back {t sl : Addr} {items : Array Value} {vl vu vs : Value} {Q : Value → Shared → Prop} (ht : PyProof.Rows.IsTup s.heap t items) (hs : s.heap.IsSliceOf sl vl vu vs) (pl : IsPart vl none) (pu : IsPart vu none) (ps : IsPart vs (some (-1)))
    (h : Q (.ref s.heap.objs.size) { s with heap := s.heap.push { cls := .type "tuple", data := .seq items.toList.reverse.toArray } })
    (hsz : items.size ≤ sizeLine) :
    wpAny (model prog w) A (getItem (.ref t) (.ref sl)) Q E s := by
  have htake : sizeOk (.seq items.toList.reverse.toArray) := by
    show items.toList.reverse.toArray.size ≤ sizeLine
    simpa using hsz
  obtain ⟨ob, hob, hcl, hdt⟩ := id hs
  have hSl : s.TypeIs (.ref sl) "slice" := ⟨ob, hob, hcl⟩
  unfold getItem
  try (with_reducible refine wpAny_holding ?_)
  try (refine wpAny_bind (wpAny_pure ?_))
  refine wpAny_bind ?_
  refine wpAny_sequenceKey ht.typeIs (by decide) ?_
  refine wpAny_bind (wpAny_callSpecial?_slot ht.typeIs (name := Str.ofString "__getitem__") PyProof.Rows.slot_tuple_getitem
    (wpAny_call_entry PyProof.Rows.slot_tuple_getitem ht.typeIs PyProof.Rows.entry_tuple_getitem ?_ (PyProof.Rows.args_tuple_getitem _ _)))
  show wpAny (model prog w) _ (Builtin.Tuple.tupleItemsOf (.ref t) >>= _) _ _ s
  refine wpAny_bind (PyProof.Rows.tupleItemsOf_ ht ?_)
  refine wpAny_bind (wpAny_typeOf hSl ?_)
  rw [if_pos (by decide)]
  refine wpAny_bind (applied_back hs pl pu ps ?_)
  have hno : ¬ ((((items.size : Int) - 1) == 0 && (-1 : Int) == 1 && items.size == items.size) = true) := by
    intro q
    rw [andI, andI] at q
    exact absurd q.1.2 (by decide)
  show wpAny _ _ (if (((items.size : Int) - 1) == 0 && (-1 : Int) == 1 && items.size == items.size) = true then _ else _) _ _ s
  rw [if_neg hno, pick_back]
  first
    | exact wpAny_bind (m := Builtin.Tuple.tupleExact _) (wpAny_newObj_type (hend := htake) (wpAny_pure ⟨_, rfl, wpAny_pure h⟩))
    | refine wpAny_bind (m := Builtin.Tuple.tupleExact _) (wpAny_newObj_type ?_ htake)
      exact wpAny_bind (wpAny_pure (wpAny_pure ⟨_, rfl, wpAny_pure h⟩))
    | refine wpAny_bind (wpAny_bind (m := Builtin.Tuple.tupleExact _) (wpAny_newObj_type ?_ htake))
      exact wpAny_pure (wpAny_pure ⟨_, rfl, wpAny_pure h⟩)
end
section
variable {Γ : Gm} {Y : Yd} {g : Gh} {X : Cx}
def rRev (K : PySem.W.Frag) : V → Hp → VK → Prop := fun x H1 Q => ∃ Fb m d r, (∀ a, Fb a → H1 a ≠ none) ∧ RepV K Fb m H1 x d ∧ o1 reprL .rev d = some r ∧
  ∀ p ws ds, H1 p = none → RepL K Fb m H1 ws ds → (r = .tup ds → Q (.ref p) (upd H1 p (.tup ws))) ∧ (r = .lst ds → Q (.ref p) (upd H1 p (.lst ws)))
/-- a part of a slice whose number is known: what is seen stays -/
theorem part_is {o : Option Expr} {t : TO} {r : Option Int} {pn : List (Addr × Obj)} {σ : L2.St} {H : Hp} {s : Shared} {C : Value → Shared → Prop} (part : PO X o t) (I : L2.Inv X pn σ H s) (known : t σ H fun n M => n = r ∧ M = H)
    (next : ∀ v z, IsPart v r → L2.Inv X pn σ H z → C v z) : wpAny (model X.prog X.w) X.A (evalPart o X.env) C X.xe s :=
  thn (part.run pn s σ H _ I known) fun v z ⟨n, M, J, p, e1, e2⟩ => by
    subst e1 e2
    exact next v z p J
/-- the cell of a slice -/
abbrev sliceCell (l u st : Value) : Obj := { cls := .type "slice", data := .fields #[l, u, st] }
/-- the value turned round, the slice being at hand -/
theorem turned {x : V} {v l u st : Value} {pn : List (Addr × Obj)} {σ : L2.St} {H : Hp} {z : Shared} {Q : VK} (J : L2.Inv X pn σ H z) (rel : RelV x v) (pl : IsPart l none) (pu : IsPart u none) (ps : IsPart st (some (-1))) (what : rRev X.K x H Q) (e : Expr) {k : Nat} {p1 p2 p3 : Pos} :
    wpAny (model X.prog X.w) X.A (PyProof.Rows.subscriptTail e (.Slice none none (some (.UnaryOp .USub (.Constant (.int 1) k p1) p2)) p3) v (.ref z.heap.objs.size)) (EP X pn σ Q) X.xe { z with heap := z.heap.push (sliceCell l u st) } := by
  have I : L2.Inv X pn σ H { z with heap := z.heap.push (sliceCell l u st) } := J.kept (t' := z.toks) fun _ _ => Heap.get?_push_of_some _
  obtain ⟨Fb, m, d, r, hf, rep, does, q⟩ := what
  have slice := Heap.IsSliceOf.new z.heap l u st
  have fresh := I.hok.fresh (Nat.le_refl _)
  match d, does with
  | .lst ds, does =>
    obtain rfl := Option.some.inj does
    obtain ⟨a, vs, rfl, row, reps⟩ := rep.lst_inv
    cases rel
    obtain ⟨its, vals, cell, few⟩ := I.list row
    have few2 : its.toArray.size ≤ sizeLine := by rw [List.size_toArray, ← vals.length]; exact few
    refine PyProof.Rows.tail_any (ops := [.ref a, .ref z.heap.objs.size]) cell.isList.typeIs PySem.slot_list_getitem.lookup (PySem.wpAny_getItem_list_slice cell.isList slice pl pu ps (by decide) ?_ few2) (by with_unfolding_all rfl)
    rw [PySem.W.krv_pick]
    exact ⟨.ref _, _, I.laid (t' := z.toks) (o := .lst vs.reverse) (fun _ _ => Heap.get?_push_of_some _) (Nat.le_refl _) ⟨by rw [vs.length_reverse]; exact few, its.reverse, 0, vals.reverse, Heap.get?_push_size _ rfl⟩, rfl, (q _ _ _ fresh reps.reverse).2 rfl⟩
  | .tup ds, does =>
    obtain rfl := Option.some.inj does
    obtain ⟨a, vs, rfl, row, reps⟩ := rep.tup_inv
    cases rel
    obtain ⟨its, vals, cell, few⟩ := I.tuple row
    have few2 : its.toArray.size ≤ sizeLine := by rw [List.size_toArray, ← vals.length]; exact few
    refine PyProof.Rows.tail_any (ops := [.ref a, .ref z.heap.objs.size]) cell.typeIs PyProof.Rows.slot_tuple_getitem.lookup (getItem_back cell slice pl pu ps ?_ few2) (by with_unfolding_all rfl)
    exact ⟨.ref _, _, I.laid (t' := z.toks) (o := .tup vs.reverse) (fun _ _ => Heap.get?_push_of_some _) (Nat.le_refl _) ⟨by rw [vs.length_reverse]; exact few, its.reverse, vals.reverse, PyProof.Rows.IsTup.new _ _⟩, rfl, (q _ _ _ fresh reps.reverse).1 rfl⟩
  | .non, does | .bl _, does | .int _, does | .str _, does | .obj _ _ _, does | .ref _, does => cases does
theorem pe_rev0 {e : Expr} {t : TE} {k : Nat} {p1 p2 p3 pos : Pos} (he : PE X e t) : PE X (.Subscript e (.Slice none none (some (.UnaryOp .USub (.Constant (.int 1) k p1) p2)) p3) pos) fun σ H Q => t σ H fun x H1 => rRev X.K x H1 Q where
  run pn s σ H Q I told := PyProof.Rows.Subscript_ (thn (he.run pn s σ H _ I told) fun v z ⟨x, M, J, rel, what⟩ =>
    PySem.wpAny_Slice (part_is po_none J ⟨rfl, rfl⟩ fun l z1 pl J1 => part_is po_none J1 ⟨rfl, rfl⟩ fun u z2 pu J2 => part_is (po_some (pe_un un_neg pe_int)) J2 ⟨1, rfl, -1, rfl, rfl, rfl⟩ fun st z3 ps J3 => turned J3 rel pl pu ps what e))
theorem e_rev {e : Expr} {c : E} {k : Nat} {p1 p2 p3 pos : Pos} (he : PE X e (tV X.K Y g c)) : PE X (.Subscript e (.Slice none none (some (.UnaryOp .USub (.Constant (.int 1) k p1) p2)) p3) pos) (tE X.K Y g (.op1 .rev c)) :=
  peWeak (pe_rev0 he) fun σ H Q q => by
    obtain ⟨env, hp, m, S, ev⟩ := sE_op1 q
    refine ⟨env, hp, m, S, ev.imp (fun d hp' q v H1 m1 S1 st1 r1 => ?_) fun _ _ _ _ x => x⟩
    obtain ⟨Fb, m2, x, r, hf, hx, ho, qq⟩ := q v H1 m1 S1 st1 r1
    refine ⟨Fb, m2, x, r, hf, hx, ho, fun p ws ds hp rl => ⟨fun e => ?_, fun e => ?_⟩⟩
    · subst e
      exact qq _ _ (Evl.Ex.new hp) (rep_new_tup hp rl)
    · subst e
      exact qq _ _ (Evl.Ex.new hp) (rep_new_lst hf hp rl)
/-! ### slices -/
/-- the operands, one by one, then the operation -/
theorem RR.op2 {K : PySem.W.Frag} {o : Op2} {a b : E} {env : Env} {σ : St} {hp : Heap} {m : List Addr} {H : Hp} {P : D → Heap → Prop} (ev : RR (evE reprL Γ (.op2 o a b) env hp) P (XP K Y g env σ m H)) :
    RR (evE reprL Γ a env hp) (fun x h1 => RR (evE reprL Γ b env h1) (fun y h2 => ∃ x' y' d, deref h2 x = some x' ∧ deref h2 y = some y' ∧ o2 o x' y' = some d ∧ P d h2) (XP K Y g env σ m H)) (XP K Y g env σ m H) := by
  have ev := RR.bind (r := evE reprL Γ a env hp) ev
  refine ev.imp (fun x h1 ev => (RR.bind (r := calmIf o (evE reprL Γ b env h1)) ev).unIf.imp (fun y h2 ev => ?_) fun _ _ _ _ x => x) fun _ _ _ _ x => x
  obtain ⟨d, e3, q⟩ := ev.lift
  obtain ⟨x', d1, e3⟩ := Option.bind_eq_some_iff.mp e3
  obtain ⟨y', d2, e3⟩ := Option.bind_eq_some_iff.mp e3
  exact ⟨x', y', d, d1, d2, e3, q⟩
theorem deref_flat {h : Heap} {x d : D} (e : deref h x = some d) (n1 : ∀ xs, d ≠ .lst xs) (n2 : ∀ c ns ds, d ≠ .obj c ns ds) : x = d := by
  cases x with
  | ref k =>
    obtain ⟨e0, _, h1⟩ := Option.bind_eq_some_iff.mp (show (h[k]?).bind cellD = some d from e)
    cases e0 <;> first | cases h1 | skip
    · exact absurd rfl (n1 _)
    · exact absurd rfl (n2 _ _ _)
  | _ => exact Option.some.inj e
theorem deref_int {h : Heap} {x : D} {i : Int} (e : deref h x = some (.int i)) : x = .int i := deref_flat e (fun _ z => by cases z) fun _ _ _ z => by cases z
theorem e_sfrom {e a : Expr} {x y : E} {p2 pos : Pos} (he : PE X e (tV X.K Y g x)) (ha : PE X a (tV X.K Y g y)) : PE X (.Subscript e (.Slice (some a) none none p2) pos) (tE X.K Y g (.op2 .sfrom x y)) :=
  peWeak (pe_slice ro_sl he (po_some ha) po_none) fun σ H Q ⟨env, hp, m, S, ev⟩ => by
    refine ⟨env, hp, m, S, ev.op2.imp (fun u h1 ev v1 H1 m1 S1 st1 r1 => ⟨env, h1, m1, S1, ev.imp (fun w h2 ev v2 H2 m2 S2 st2 r2 => ?_) fun _ _ _ _ x => x.step st1⟩) fun _ _ _ _ x => x⟩
    obtain ⟨u', w', d, d1, d2, ho, q⟩ := ev
    have hw : ∃ i, w' = .int i ∧ slD (some i) none u' = some d := by
      cases w' <;> first | exact ⟨_, rfl, ho⟩ | cases ho
    obtain ⟨i, rfl, ho⟩ := hw
    obtain rfl := deref_int d2
    obtain rfl := r2.v.int_inv
    refine ⟨i, rfl, Fbd g env σ m2, m2, u', d, S2.fb, (r1.step S1.at_m st2).v.cell S2 d1, ho, fun v H' ex r => ?_⟩
    exact q v H' m2 (S2.ext ex) ((st1.trans st2).trans (Step.ext ex)) r
theorem e_sto {e a : Expr} {x y : E} {p2 pos : Pos} (he : PE X e (tV X.K Y g x)) (ha : PE X a (tV X.K Y g y)) : PE X (.Subscript e (.Slice none (some a) none p2) pos) (tE X.K Y g (.op2 .sto x y)) :=
  peWeak (pe_slice ro_sl he po_none (po_some ha)) fun σ H Q ⟨env, hp, m, S, ev⟩ => by
    refine ⟨env, hp, m, S, ev.op2.imp (fun u h1 ev v1 H1 m1 S1 st1 r1 => ⟨env, h1, m1, S1, ev.imp (fun w h2 ev v2 H2 m2 S2 st2 r2 => ?_) fun _ _ _ _ x => x.step st1⟩) fun _ _ _ _ x => x⟩
    obtain ⟨u', w', d, d1, d2, ho, q⟩ := ev
    have hw : ∃ i, w' = .int i ∧ slD none (some i) u' = some d := by
      cases w' <;> first | exact ⟨_, rfl, ho⟩ | cases ho
    obtain ⟨i, rfl, ho⟩ := hw
    obtain rfl := deref_int d2
    obtain rfl := r2.v.int_inv
    refine ⟨i, rfl, Fbd g env σ m2, m2, u', d, S2.fb, (r1.step S1.at_m st2).v.cell S2 d1, ho, fun v H' ex r => ?_⟩
    exact q v H' m2 (S2.ext ex) ((st1.trans st2).trans (Step.ext ex)) r
theorem e_slice {e a b : Expr} {x y z : E} {p2 pos : Pos} (he : PE X e (tV X.K Y g x)) (ha : PE X a (tV X.K Y g y)) (hb : PE X b (tV X.K Y g z)) : PE X (.Subscript e (.Slice (some a) (some b) none p2) pos) (tE X.K Y g (.op3 .slice x y z)) :=
  peWeak (pe_slice ro_sl he (po_some ha) (po_some hb)) fun σ H Q ⟨env, hp, m, S, ev⟩ => by
    have ev := RR.bind (r := evE reprL Y.Γ x env hp) ev
    refine ⟨env, hp, m, S, ev.imp (fun u h1 ev v1 H1 m1 S1 st1 r1 => ⟨env, h1, m1, S1, (RR.bind (r := evE reprL Y.Γ y env h1) ev).imp (fun i h2 ev v2 H2 m2 S2 st2 r2 => ?_) fun _ _ _ _ x => x.step st1⟩) fun _ _ _ _ x => x⟩
    obtain ⟨j, h3, e3, ev⟩ := (RR.bind (r := calmly (evE reprL Y.Γ z env h2)) ev).calm
    obtain ⟨d, ev, q⟩ := ev.lift
    obtain ⟨u', d1, ho⟩ := Option.bind_eq_some_iff.mp ev
    have hw : ∃ k l, i = .int k ∧ j = .int l ∧ slD (some k) (some l) u' = some d := by
      cases i <;> cases j <;> first | exact ⟨_, _, rfl, rfl, ho⟩ | (cases u' <;> cases ho)
    obtain ⟨k, l, rfl, rfl, ho⟩ := hw
    obtain rfl := r2.v.int_inv
    refine ⟨k, rfl, env, h2, m2, S2, .of e3 fun v3 H3 m3 S3 st3 r3 => ?_⟩
    obtain rfl := r3.v.int_inv
    refine ⟨l, rfl, Fbd g env σ m3, m3, u', d, S3.fb, ((r1.step S1.at_m st2).step S2.at_m st3).v.cell S3 d1, ho, fun v H' ex r => ?_⟩
    exact q v H' m3 (S3.ext ex) (((st1.trans st2).trans st3).trans (Step.ext ex)) r
/-! ### a op b op c -/
theorem s_chain {o o' : Op2} {x y z : E} {σ : St} {H : Hp} {Q : VK} (q0 : tE X.K Y g (.chain o o' x y z) σ H Q) : tChain (rO2 X.K o) (rO2 X.K o') (tV X.K Y g x) (tV X.K Y g y) (tV X.K Y g z) σ H Q := by
    obtain ⟨env, hp, m, S, ev⟩ := q0
    have ev := RR.bind (r := evE reprL Y.Γ x env hp) ev
    refine ⟨env, hp, m, S, ev.imp (fun u h1 ev v1 H1 m1 S1 st1 r1 => ⟨env, h1, m1, S1, (RR.bind (r := evE reprL Y.Γ y env h1) ev).imp (fun w h2 ev v2 H2 m2 S2 st2 r2 => ?_) fun _ _ _ _ x => x.step st1⟩) fun _ _ _ _ x => x⟩
    obtain ⟨r, e3, ev⟩ := (RR.bind (r := lift h2 (o2 o u w)) ev).lift
    refine ⟨Fbd g env σ m2, m2, u, w, _, S2.fb, (r1.step S1.at_m st2).v, r2.v, e3, fun v H3 ex r3 => ?_⟩
    cases r with
    | bl b =>
      cases r3
      refine ⟨b, rfl, ?_⟩
      have st3 := (st1.trans st2).trans (Step.ext ex)
      cases b with
      | false => exact iteF ((show ∀ v H' m', StRel X.K g env h2 m' σ H' → Step m H m' H' → Rep X.K (Fbd g env σ m') m' H' v (.bl false) → Q v H' from ev) _ H3 m2 (S2.ext ex) st3 (.bl _))
      | true =>
        refine iteT ⟨env, h2, m2, S2.ext ex, (RR.bind (r := evE reprL Y.Γ z env h2) ev).imp (fun t h3 ev v4 H4 m4 S4 st4 r4 => ?_) fun _ _ _ _ x => x.step st3⟩
        obtain ⟨d, e5, q⟩ := ev.lift
        refine ⟨Fbd g env σ m4, m4, w, t, d, S4.fb, ((r2.step S2.at_m (Step.ext ex)).step (S2.ext ex).at_m st4).v, r4.v, e5, fun v5 H5 ex5 r5 => ?_⟩
        exact q v5 H5 m4 (S4.ext ex5) ((st3.trans st4).trans (Step.ext ex5)) r5
    | _ => exact ev.elim
theorem e_chain {op op' : CmpOp} {o o' : Op2} {a b c : Expr} {x y z : E} {pos : Pos} (ho : OpR X (compareOp op) (rO2 X.K o)) (ho' : OpR X (compareOp op') (rO2 X.K o')) (ha : PE X a (tV X.K Y g x)) (hb : PE X b (tV X.K Y g y))
    (hc : PE X c (tV X.K Y g z)) (hm : lastMarks [op, op'] [b, c] = false) : PE X (.Compare a [op, op'] [b, c] pos) (tE X.K Y g (.chain o o' x y z)) :=
  peWeak (pe_chain ho ho' ha hb hc hm) fun σ H Q q => s_chain q
theorem strs_rep {K : PySem.W.Frag} {Fb : Addr → Prop} {m : List Addr} {H : Hp} : ∀ {ws : List V} {ds : List D} {zs : List Str}, RepL K Fb m H ws ds → strs? ds = some zs → ws = zs.map V.str
  | [], [], zs, _, e => by
    cases e
    rfl
  | _ :: _, d :: ds, zs, .cons h t, e => by
    cases d with
    | str z =>
      obtain ⟨y, e1, e2⟩ := Option.map_eq_some_iff.mp (show (strs? ds).map (z :: ·) = some zs from e)
      subst e2
      cases h
      rw [strs_rep t e1]
      rfl
    | _ => cases e
theorem e_join {o e : Expr} {b c : E} {apos pos : Pos} (ho : PE X o (tV X.K Y g b)) (he : PE X e (tV X.K Y g c)) (hs : starEach [e] X.env = [(false, eval e X.env)]) (hbase : attributeBase o "join" X.env (eval o X.env) = eval o X.env) (hline : (apos.endLine == pos.line) = true) :
    PE X (.Call (.Attribute o "join" apos) [e] [] pos) (tE X.K Y g (.op2 .join b c)) :=
  peWeak (pe_join ho he hs hbase hline) fun σ H Q ⟨env, hp, m, S, ev⟩ => by
    have ev := RR.bind (r := evE reprL Y.Γ b env hp) ev
    refine ⟨env, hp, m, S, ev.imp (fun u h1 ev v1 H1 m1 S1 st1 r1 => ?_) fun _ _ _ _ x => x⟩
    obtain ⟨w, h2, e2, ev⟩ := (RR.bind (r := calmly (evE reprL Y.Γ c env h1)) ev).calm
    obtain ⟨d, ev, q⟩ := ev.lift
    obtain ⟨u', d1, ev⟩ := Option.bind_eq_some_iff.mp ev
    obtain ⟨w', d2, hj⟩ := Option.bind_eq_some_iff.mp ev
    have hw : ∃ a ys zs, u' = .str a ∧ w' = .lst ys ∧ strs? ys = some zs ∧ (zs.map (·.length)).sum + zs.length * a.length ≤ LIM ∧ d = .str (Str.join a zs) := by
      cases u' with
      | str a =>
        cases w' with
        | lst ys =>
          obtain ⟨zs, e3, e4⟩ := Option.bind_eq_some_iff.mp (show (strs? ys).bind _ = _ from hj)
          split at e4
          · rename_i hl
            exact ⟨a, ys, zs, rfl, rfl, e3, hl, (Option.some.inj e4).symm⟩
          · cases e4
        | _ => cases hj
      | _ => cases w' <;> cases hj
    obtain ⟨a, ys, zs, rfl, rfl, e3, hl, rfl⟩ := hw
    obtain rfl := deref_flat d1 (fun _ z => by cases z) fun _ _ _ z => by cases z
    obtain rfl := r1.v.str_inv
    refine ⟨⟨a, rfl⟩, env, h1, m1, S1, .of e2 fun v2 H2 m2 S2 st2 r2 => ?_⟩
    obtain ⟨p, ws, rfl, hq, hr⟩ := (r2.v.cell S2 d2).lst_inv
    refine ⟨a, p, zs, rfl, rfl, .inl ?_, ?_, ?_⟩
    · rw [← strs_rep hr e3]
      exact hq
    · exact hl
    · rw [show Txt.join a zs = Str.join a zs from TL.join_eq a zs]
      exact q _ H2 m2 S2 (st1.trans st2) (.str _)
theorem t_chain {op op' : CmpOp} {o o' : Op2} {a b c : Expr} {x y z : E} {pos : Pos} (ho : OpR X (compareOp op) (rO2 X.K o)) (ho' : OpR X (compareOp op') (rO2 X.K o')) (ha : PE X a (tV X.K Y g x)) (hb : PE X b (tV X.K Y g y))
    (hc : PE X c (tV X.K Y g z)) (hm : lastMarks [op, op'] [b, c] = false) : PT X (.Compare a [op, op'] [b, c] pos) (tT X.K Y g (.chain o o' x y z)) :=
  ptWeak (pt_chain ho ho' ha hb hc hm) fun σ H Q ⟨env, hp, m, S, ev⟩ => by
    refine s_chain (Q := fun v H1 => _) ⟨env, hp, m, S, ev.imp (fun d hp' ⟨b, e, q⟩ v H1 m1 S1 st1 r1 => ?_) fun _ _ _ _ x => x⟩
    subst e
    cases r1
    exact ⟨b, rfl, q H1 m1 S1 st1⟩
end
end Ev
end

section
set_option Elab.async false
set_option linter.all false
set_option maxRecDepth 100000
namespace Ev
open PySem L2 PyProof.Rows
variable [TabList]
/-! ### a list or a tuple that is walked -/
inductive Src where
  | lst (a : Addr) | tup (a : Addr)
def Src.at : Src → Addr
  | .lst a => a
  | .tup a => a
def Src.sq (K : PySem.W.Frag) (H : Hp) : Src → List V → Prop
  | .lst a, xs => SqL K H a xs
  | .tup a, xs => SqT K H a xs
def Src.it (h : PySem.Heap) (p : Addr) (i : Nat) : Src → Prop
  | .lst a => h.IsListIter p a i
  | .tup a => h.IsTupleIter p a i
def Src.has (h : PySem.Heap) (its : Array Value) : Src → Prop
  | .lst a => h.IsList a its
  | .tup a => h.IsTuple a its
def Src.obj : Src → Obj
  | .lst a => { cls := .type "list_iterator", data := .fields #[.ref a, .int 0 0] }
  | .tup a => { cls := .type "tuple_iterator", data := .fields #[.ref a, .int 0 0] }
theorem Src.draws {prog : Program} {w : World} {A : Around} (hh : A.handled = none) (p : Addr) (c : Src) (hne : c.at ≠ p) (its : Array Value) :
    Draws prog w A p [p, c.at] its.size (fun i v => its[i]? = some v) (fun i h => c.it h p i ∧ c.has h its) := by
  cases c with
  | lst a => exact Draws.list hh p a hne its
  | tup a => exact Draws.tuple hh p a hne its
theorem Src.begins (c : Src) (its : Array Value) : Begins (.ref c.at) c.obj fun h => c.has h its := by
  cases c with
  | lst a => exact begins_list a its
  | tup a => exact begins_tuple a its
theorem Src.it_at {h h' : PySem.Heap} {p : Addr} {i : Nat} {c : Src} (x : c.it h p i) (e : ∀ o, h.get? p = some o → h'.get? p = some o) : c.it h' p i := by
  cases c with
  | lst a => exact Heap.IsListIter.at x e
  | tup a => exact Heap.IsTupleIter.at x e
theorem Src.it_obj {h : PySem.Heap} {p : Addr} {i : Nat} {c : Src} (x : c.it h p i) : ∃ o, h.get? p = some o ∧ ∀ v, o.data ≠ .cell v := by
  cases c with
  | lst a =>
    obtain ⟨o, e, _, d⟩ := x
    exact ⟨o, e, fun v q => by rw [d] at q; cases q⟩
  | tup a =>
    obtain ⟨o, e, _, d⟩ := x
    exact ⟨o, e, fun v q => by rw [d] at q; cases q⟩
theorem Src.new {h : PySem.Heap} {p : Addr} {c : Src} (e : h.get? p = some c.obj) : c.it h p 0 := by
  cases c with
  | lst a => exact ⟨_, e, rfl, rfl⟩
  | tup a => exact ⟨_, e, rfl, rfl⟩
section
variable {X : Cx} {s : Shared} {pins : List (Addr × Obj)} {σ : L2.St} {H : Hp}
theorem Src.items (I : L2.Inv X pins σ H s) {c : Src} {xs : List V} (h : c.sq X.K H xs) : ∃ its : List Value, Vals xs its ∧ c.has s.heap its.toArray ∧ xs.length ≤ sizeLine := by
  cases c with
  | lst a =>
    obtain ⟨its, r, p, z⟩ := I.list h
    exact ⟨its, r, p.isList, z⟩
  | tup a =>
    obtain ⟨its, r, p, z⟩ := I.tuple h
    exact ⟨its, r, p, z⟩
theorem Src.inj (I : L2.Inv X pins σ H s) {c : Src} {xs ys : List V} (h : c.sq X.K H xs) (h' : c.sq X.K H ys) : xs = ys := by
  cases c with
  | lst a => exact I.list_inj h h'
  | tup a => exact I.tuple_inj h h'
theorem Src.lt (h : PySem.Heap) {c : Src} {its : Array Value} (x : c.has h its) : c.at < h.objs.size := by
  cases c with
  | lst a =>
    obtain ⟨o, e, _⟩ := x
    exact Heap.lt_size e
  | tup a =>
    obtain ⟨o, e, _⟩ := x
    exact Heap.lt_size e
end
/-- x is a's item i, whatever values a is told to have -/
def Src.gives (K : PySem.W.Frag) (H : Hp) (a : Src) (i : Nat) (x : V) : Prop := ∀ vs, a.sq K H vs → vs[i]? = some x
/-- v is a new pair -/
def NewPair (H H' : Hp) (v : V) (T : Addr) (x y : V) : Prop := v = .ref T ∧ H T = none ∧ H' = upd H T (.tup [x, y])
/-- the items as they stand at each turn, two of them in a new pair -/
def It2 (K : PySem.W.Frag) (a b : Src) : It where
  go i H := ∃ (xs ys : List V) (x y : V), a.sq K H xs ∧ b.sq K H ys ∧ xs[i]? = some x ∧ ys[i]? = some y
  yld i H v H' := ∃ T x y, NewPair H H' v T x y ∧ a.gives K H i x ∧ b.gives K H i y
  stop i H := ∃ xs ys : List V, a.sq K H xs ∧ b.sq K H ys ∧ i = min xs.length ys.length
structure Apart2 (z TI TO i1 i2 : Addr) (a b : Src) : Prop where
  sep : ZipSep2 z TI TO i1 i2 [i1, a.at] [i2, b.at]
  n1 : a.at ≠ i1
  n2 : b.at ≠ i2
theorem turn2 {P : Program} {w : World} {K : PySem.W.Frag} {elts : List Expr} {kk : Nat} {tpos : Pos} {a b : Src} {z TI TO i1 i2 : Addr} (D : Apart2 z TI TO i1 i2 a b) :
    Turn P w K (.Tuple elts kk tpos) (It2 K a b) [z, TI, TO, i1, i2] z (fun i h => IsZip h z TI TO .none ∧ IsTupOf2 h TI (.ref i1) (.ref i2) ∧ (∃ a1 a2, IsTupOf2 h TO a1 a2) ∧ a.it h i1 i ∧ b.it h i2 i) where
  mem := by simp
  obj := fun i h st c hc => by
    obtain ⟨h1, h2, ⟨a1, a2, h3⟩, h4, h5⟩ := st
    simp only [List.mem_cons, List.not_mem_nil, or_false] at hc
    rcases hc with e | e | e | e | e <;> subst e
    · exact ⟨_, h1, fun v q => nomatch q⟩
    · exact ⟨_, h2, fun v q => nomatch q⟩
    · exact ⟨_, h3, fun v q => nomatch q⟩
    · exact Src.it_obj h4
    · exact Src.it_obj h5
  keep := fun i h h' st k => by
    obtain ⟨h1, h2, ⟨a1, a2, h3⟩, h4, h5⟩ := st
    exact ⟨k z (by simp) _ h1, k TI (by simp) _ h2, ⟨a1, a2, k TO (by simp) _ h3⟩, Src.it_at h4 (fun o => k i1 (by simp) o), Src.it_at h5 (fun o => k i2 (by simp) o)⟩
  item := by
    intro X hP hw hK hc i pn s σ H E I hf st hg
    subst hP hw hK
    obtain ⟨h1, h2, h3, h4, h5⟩ := st
    obtain ⟨xs, ys, x, y, hx, hy, ex, ey⟩ := hg
    obtain ⟨its, r1, p1, _⟩ := Src.items I hx
    obtain ⟨jts, r2, p2, _⟩ := Src.items I hy
    have hh : X.A.in1.handled = none := I.ok.hd hc
    have G := GoesN.zip2 (elts := elts) (x1 := kk) (pos := tpos) D.sep (Src.draws (prog := X.prog) (w := X.w) hh i1 a D.n1 its.toArray) (Src.draws (prog := X.prog) (w := X.w) hh i2 b D.n2 jts.toArray)
    have hi1 := (List.getElem?_eq_some_iff.mp ex).1
    have hi2 := (List.getElem?_eq_some_iff.mp ey).1
    have hi : i < min its.toArray.size jts.toArray.size := by
      rw [List.size_toArray, ← r1.length, List.size_toArray, ← r2.length]
      omega
    refine wpAny_mono (G.goes i s (fun v s2 => ∃ x0 H', L2.Inv X pn σ H' s2 ∧ RelV x0 v ∧ (It2 X.K a b).yld i H x0 H' ∧ (IsZip s2.heap z TI TO .none ∧ IsTupOf2 s2.heap TI (.ref i1) (.ref i2) ∧ (∃ a1 a2, IsTupOf2 s2.heap TO a1 a2) ∧ a.it s2.heap i1 (i + 1) ∧ b.it s2.heap i2 (i + 1)) ∧ ∀ b ∈ [z, TI, TO, i1, i2], H' b = none)
      E hi ⟨h1, h2, h3, ⟨h4, p1⟩, ⟨h5, p2⟩⟩ fun v h' tk hY hS hk _ => ?_) (fun r s1 hr => ?_) fun _ _ q => q
    · obtain ⟨T, u1, u2, rfl, hT, e1, e2, hTup⟩ := hY
      obtain ⟨g1, g2, g3, ⟨g4, _⟩, ⟨g5, _⟩⟩ := hS
      obtain ⟨w1, f1, rv1⟩ := r1.get ex
      obtain ⟨w2, f2, rv2⟩ := r2.get ey
      have e1 : its[i]? = some u1 := by simpa using e1
      have e2 : jts[i]? = some u2 := by simpa using e2
      rw [f1] at e1
      rw [f2] at e2
      cases e1
      cases e2
      have new : ObjOk X.prog X.w (upd H T (.tup [x, y])) h' T (.tup [x, y]) := ⟨by show 2 ≤ sizeLine; decide, [u1, u2], .cons rv1 (.cons rv2 .nil), hTup⟩
      have I1 : L2.Inv X pn σ (upd H T (.tup [x, y])) { s with heap := h', toks := tk } :=
        I.turnedNew (ch := [z, TI, TO, i1, i2]) (fun c o hc e => hk c o (fun q => hc (by
          simp only [List.mem_cons, List.not_mem_nil, or_false] at q ⊢
          rcases q with q | q | q | q <;> simp [q])) e) hf hT new
      refine ⟨.ref T, _, I1, rfl, ⟨T, x, y, ⟨rfl, I.hok.fresh hT, rfl⟩, fun xs' hx' => by rw [Src.inj I hx' hx]; exact ex, fun ys' hy' => by rw [Src.inj I hy' hy]; exact ey⟩, ⟨g1, g2, g3, g4, g5⟩, fun c hcm => ?_⟩
      have hlt : c < s.heap.objs.size := by
        obtain ⟨a1, a2, h3'⟩ := h3
        obtain ⟨o1, q1, _⟩ := Src.it_obj h4
        obtain ⟨o2, q2, _⟩ := Src.it_obj h5
        simp only [List.mem_cons, List.not_mem_nil, or_false] at hcm
        rcases hcm with e | e | e | e | e <;> subst e
        · exact Heap.lt_size h1
        · exact Heap.lt_size h2
        · exact Heap.lt_size h3'
        · exact Heap.lt_size q1
        · exact Heap.lt_size q2
      rw [upd_ne (Nat.ne_of_lt (Nat.lt_of_lt_of_le hlt hT))]
      exact (hf c hcm).1
    · obtain ⟨v, hv, hq⟩ := hr
      exact ⟨v, hv, hq⟩
  done := by
    intro X hP hw hK hc i pn s σ H E I hf st hg
    subst hP hw hK
    obtain ⟨h1, h2, h3, h4, h5⟩ := st
    obtain ⟨xs, ys, hx, hy, hl⟩ := hg
    obtain ⟨its, r1, p1, _⟩ := Src.items I hx
    obtain ⟨jts, r2, p2, _⟩ := Src.items I hy
    have hh : X.A.in1.handled = none := I.ok.hd hc
    have G := GoesN.zip2 (elts := elts) (x1 := kk) (pos := tpos) D.sep (Src.draws (prog := X.prog) (w := X.w) hh i1 a D.n1 its.toArray) (Src.draws (prog := X.prog) (w := X.w) hh i2 b D.n2 jts.toArray)
    have e : i = min its.toArray.size jts.toArray.size := by
      rw [List.size_toArray, ← r1.length, List.size_toArray, ← r2.length]
      exact hl
    rw [e] at h4 h5
    refine G.stops s _ E ⟨h1, h2, h3, ⟨h4, p1⟩, ⟨h5, p2⟩⟩ fun h' tk hk _ => ?_
    exact I.turnedL (t' := tk) (ch := [z, TI, TO, i1, i2]) (fun c o hc e => hk c o (fun q => hc (by
          simp only [List.mem_cons, List.not_mem_nil, or_false] at q ⊢
          rcases q with q | q | q | q <;> simp [q])) e) hf
  self := fun _ _ _ _ _ st k => wpAny_pyIter_zip st.1 k
def i2 (K : PySem.W.Frag) (ta : TA) : TI := fun σ H R => ta σ H fun vs H1 => ∃ (a b : Src) (xs ys : List V), vs = [.ref a.at, .ref b.at] ∧ a.sq K H1 xs ∧ b.sq K H1 ys ∧ (xs.length ≤ sizeLine → R (It2 K a b) H1)
/-- what lies on top of the heap is free for a walk -/
theorem free_new {X : Cx} {pn : List (Addr × Obj)} {σ : L2.St} {H : Hp} {s : Shared} (I : L2.Inv X pn σ H s) {cs : List Addr} (new : ∀ c ∈ cs, s.heap.objs.size ≤ c) (c : Addr) (m : c ∈ cs) : FpOk X pn H c := I.fpOk (new c m) (I.hok.fresh (new c m))
theorem new_cells (n : Nat) : ∀ c ∈ [n + 4, n + 2, n + 3, n, n + 1], n ≤ c := fun c m => by
  simp only [List.mem_cons, List.not_mem_nil, or_false] at m
  omega
theorem pi_zip2 {X : Cx} {e e2 : Expr} {ta : TA} {p at_ tup : Pos} {names : List Expr} {k : Nat} (global : Gl X "zip") (ours : X.mg "zip" = none) (args : PA X [e, e2] ta)
    (two : starEach [e, e2] X.env = (false, eval e X.env) :: starEach [e2] X.env) (no_star : (backTo at_ (starEach [e2] X.env)).any (·.1) = false) : PI X (.Tuple names k tup) (.Call (.Name "zip" p) [e, e2] [] at_) (i2 X.K ta) :=
  ⟨fun pn s σ H R I t => Call_ (ld_blt I global ours PyProof.Rows.boot_zip (PyProof.Rows.callWith_type1 (thn (args.run at_ pn s σ H _ I t) fun us z ⟨vs, H1, J, r, src⟩ => by
    obtain ⟨a, b, xs, ys, rfl, rowA, rowB, walk⟩ := src
    obtain ⟨u, v, rfl, ra, rb⟩ := Vals.two r
    cases ra
    cases rb
    have ⟨its, _, cellA, few⟩ := Src.items J rowA
    have ⟨jts, _, cellB, _⟩ := Src.items J rowB
    have la := Src.lt _ cellA
    have lb := Src.lt _ cellB
    generalize hn : z.heap.objs.size = n at la lb
    have apart : Apart2 (n + 4) (n + 2) (n + 3) n (n + 1) a b := ⟨zip_sep2 (fp1 := [a.at]) (fp2 := [b.at]) (fun c m => List.mem_singleton.mp m ▸ la) (fun c m => List.mem_singleton.mp m ▸ lb), Nat.ne_of_lt la, Nat.ne_of_lt (Nat.lt_succ_of_lt lb)⟩
    refine zip_begins2 (Src.begins a its.toArray) (Src.begins b jts.toArray) cellA cellB fun h' zipped inner outer first second size keep => wpAny_pyIter_zip zipped ?_
    subst hn
    exact ⟨_, _, _, _, H1, rfl, J.kept (t' := z.toks) keep, turn2 apart, ⟨zipped, inner, ⟨_, _, outer⟩, Src.new first, Src.new second⟩, free_new J (new_cells _), walk few⟩) two no_star))⟩
/-! ### enumerate -/
def It1 (K : PySem.W.Frag) (a : Src) : It where
  go i H := ∃ (xs : List V) (x : V), a.sq K H xs ∧ xs[i]? = some x
  yld i H v H' := ∃ T x, NewPair H H' v T (.int (i : Nat)) x ∧ a.gives K H i x
  stop i H := ∃ xs : List V, a.sq K H xs ∧ i = xs.length
theorem turn1 {P : Program} {w : World} {K : PySem.W.Frag} {elts : List Expr} {kk : Nat} {tpos : Pos} {a : Src} {e it : Addr} (n1 : e ≠ it) (n2 : e ≠ a.at) (n3 : a.at ≠ it) :
    Turn P w K (.Tuple elts kk tpos) (It1 K a) [e, it] e (fun i h => (∃ old, IsEnum h e it ((i : Nat) : Int) old) ∧ a.it h it i) where
  mem := by simp
  obj := fun i h st c hc => by
    obtain ⟨⟨old, h1⟩, h2⟩ := st
    simp only [List.mem_cons, List.not_mem_nil, or_false] at hc
    rcases hc with e | e <;> subst e
    · exact ⟨_, h1, fun v q => nomatch q⟩
    · exact Src.it_obj h2
  keep := fun i h h' st k => by
    obtain ⟨⟨old, h1⟩, h2⟩ := st
    exact ⟨⟨old, k e (by simp) _ h1⟩, Src.it_at h2 (fun o => k it (by simp) o)⟩
  item := by
    intro X hP hw hK hc i pn s σ H E I hf st hg
    subst hP hw hK
    obtain ⟨h1, h2⟩ := st
    obtain ⟨xs, x, hx, ex⟩ := hg
    obtain ⟨its, r1, p1, _⟩ := Src.items I hx
    have hh : X.A.in1.handled = none := I.ok.hd hc
    have G := GoesN.enumFrom (elts := elts) (x1 := kk) (pos := tpos) 0 (Src.draws (prog := X.prog) (w := X.w) hh it a n3 its.toArray) e n1 (by simp [n1, n2]) (by simp)
    have hi : i < its.toArray.size := by
      have := (List.getElem?_eq_some_iff.mp ex).1
      rw [List.size_toArray, ← r1.length]
      omega
    refine wpAny_mono (G.goes i s (fun v s2 => ∃ x0 H', L2.Inv X pn σ H' s2 ∧ RelV x0 v ∧ (It1 X.K a).yld i H x0 H' ∧ ((∃ old, IsEnum s2.heap e it ((i + 1 : Nat) : Int) old) ∧ a.it s2.heap it (i + 1)) ∧ ∀ b ∈ [e, it], H' b = none)
      E hi ⟨by simpa using h1, ⟨h2, p1⟩⟩ fun v h' tk hY hS hk _ => ?_) (fun r s1 hr => ?_) fun _ _ q => q
    · obtain ⟨T, t, u1, rfl, hT, e1, hTup⟩ := hY
      obtain ⟨g1, g2, _⟩ := hS
      obtain ⟨w1, f1, rv1⟩ := r1.get ex
      have e1 : its[i]? = some u1 := by simpa using e1
      rw [f1] at e1
      cases e1
      rw [Int.zero_add] at hTup
      have new : ObjOk X.prog X.w (upd H T (.tup [.int (i : Nat), x])) h' T (.tup [.int (i : Nat), x]) := ⟨by show 2 ≤ sizeLine; decide, [.int (i : Nat) t, u1], .cons ⟨_, rfl⟩ (.cons rv1 .nil), hTup⟩
      have I1 : L2.Inv X pn σ (upd H T (.tup [.int (i : Nat), x])) { s with heap := h', toks := tk } := I.turnedNew (ch := [e, it]) (fun c o hc q => hk c o hc q) hf hT new
      refine ⟨.ref T, _, I1, rfl, ⟨T, x, ⟨rfl, I.hok.fresh hT, rfl⟩, fun xs' hx' => by rw [Src.inj I hx' hx]; exact ex⟩, ⟨by simpa using g1, g2⟩, fun c hcm => ?_⟩
      have hlt : c < s.heap.objs.size := by
        obtain ⟨old, h1'⟩ := h1
        obtain ⟨o1, q1, _⟩ := Src.it_obj h2
        simp only [List.mem_cons, List.not_mem_nil, or_false] at hcm
        rcases hcm with e | e <;> subst e
        · exact Heap.lt_size h1'
        · exact Heap.lt_size q1
      rw [upd_ne (Nat.ne_of_lt (Nat.lt_of_lt_of_le hlt hT))]
      exact (hf c hcm).1
    · obtain ⟨v, hv, hq⟩ := hr
      exact ⟨v, hv, hq⟩
  done := by
    intro X hP hw hK hc i pn s σ H E I hf st hg
    subst hP hw hK
    obtain ⟨h1, h2⟩ := st
    obtain ⟨xs, hx, hl⟩ := hg
    obtain ⟨its, r1, p1, _⟩ := Src.items I hx
    have hh : X.A.in1.handled = none := I.ok.hd hc
    have G := GoesN.enumFrom (elts := elts) (x1 := kk) (pos := tpos) 0 (Src.draws (prog := X.prog) (w := X.w) hh it a n3 its.toArray) e n1 (by simp [n1, n2]) (by simp)
    have e : i = its.toArray.size := by
      rw [List.size_toArray, ← r1.length]
      exact hl
    rw [e] at h1 h2
    refine G.stops s _ E ⟨by simpa using h1, ⟨h2, p1⟩⟩ fun h' tk hk _ => ?_
    exact I.turnedL (t' := tk) hk hf
  self := fun _ _ _ _ _ st k => wpAny_pyIter_enum st.1.choose_spec k
end Ev
end

section
set_option Elab.async false
set_option linter.all false
set_option maxRecDepth 100000
namespace Ev
open PySem L2 PyProof.Rows
variable [TabList]
/-! ### enumerate(v) -/
/-- the cell that counts, over the iterator at it -/
abbrev counter (it : Addr) : Obj := { cls := .type "enumerate", data := .fields #[.none, .bool false, .ref it, rawInt 0, .none, .none] }
/-- the heap with an iterator and its counter on top -/
abbrev counted (h : PySem.Heap) (o : Obj) : PySem.Heap := (h.push o).push (counter h.objs.size)
theorem counted_is (h : PySem.Heap) (o : Obj) : IsEnum (counted h o) (h.push o).objs.size h.objs.size 0 .none := Heap.get?_push_size (h.push o) (o := counter h.objs.size) rfl
theorem new_counter {v : Value} {o : Obj} {H : PySem.Heap → Prop} (B : Begins v o H) :
    Meets (Builtin.«enumerate.__new__» ⟨[.type "enumerate", v], []⟩) fun _ R s => H s.heap ∧ R (.ok (.ret (.ref (s.heap.push o).objs.size))) { s with heap := counted s.heap o } :=
  .of_wp fun P w A R ⟨h, gens, drawn, toks, os⟩ ⟨begins, answer⟩ => by
    have begun {A' : Around} {Q E : Value → Shared → Prop} (q : Q (.ref h.objs.size) ⟨h.push o, gens, drawn, toks, os⟩) : wpAny (model P w) A' (pyIter v) Q E ⟨h, gens, drawn, toks, os⟩ := B.iter P w _ _ ⟨h, gens, drawn, toks, os⟩ _ begins q
    have itself := sub_enumerate
    wp_walk using begun
    -- who asks is looked at, and does not matter
    refine wpAny_stack_any fun frames => wpAny_pure ?_
    split
    · rename_i asks _ _ _ _ _
      by_cases same : (asks == Value.type "enumerate") = true
      · simp only [same]
        wp_walk using begun
        exact ⟨_, rfl, answer⟩
      · simp only [Bool.eq_false_iff.mpr same]
        wp_walk using begun
        exact ⟨_, rfl, answer⟩
    · wp_walk using begun
      exact ⟨_, rfl, answer⟩
def i1 (K : PySem.W.Frag) (ta : TA) : TI := fun σ H R => ta σ H fun vs H1 => ∃ (a : Src) (xs : List V), vs = [.ref a.at] ∧ a.sq K H1 xs ∧ (xs.length ≤ sizeLine → R (It1 K a) H1)
theorem starts1 {P : Program} {w : World} {A : Around} {s : Shared} {v : Value} {o : Obj} {H : PySem.Heap → Prop} {Q E : Value → Shared → Prop} (B : Begins v o H) (begins : H s.heap) (q : Q (.ref (s.heap.push o).objs.size) { s with heap := counted s.heap o }) :
    wpAny (model P w) A (call (.type "enumerate") [v]) Q E s :=
  callType_new F.called_enumerate (by decide) (F.typeCall_enumerate_1 _) (F.newCall_enumerate_1 _) (fun _ => F.args_object_init_2 _ _) F.entry_enumerate_new (new_counter B) ⟨begins, ⟨_, counted_is _ _, rfl⟩, q⟩
theorem pi_enum1 {X : Cx} {e : Expr} {ta : TA} {p at_ tup : Pos} {names : List Expr} {k : Nat} (global : Gl X "enumerate") (ours : X.mg "enumerate" = none) (arg : PA X [e] ta) (one : starEach [e] X.env = [(false, eval e X.env)]) :
    PI X (.Tuple names k tup) (.Call (.Name "enumerate" p) [e] [] at_) (i1 X.K ta) :=
  ⟨fun pn s σ H R I t => Call_ (ld_blt I global ours boot_enumerate (PyProof.Rows.callWith_type1 (thn (arg.run at_ pn s σ H _ I t) fun us z ⟨vs, H1, J, r, src⟩ => by
    obtain ⟨a, xs, rfl, row, walk⟩ := src
    obtain ⟨u, rfl, same⟩ := Vals.one r
    cases same
    have ⟨its, _, cell, few⟩ := Src.items J row
    have lt := Src.lt _ cell
    have keep : ∀ b ob, z.heap.get? b = some ob → (counted z.heap a.obj).get? b = some ob := fun b ob e => Heap.get?_push_of_some _ (Heap.get?_push_of_some _ e)
    have up : (z.heap.push a.obj).objs.size = z.heap.objs.size + 1 := Heap.size_push ..
    have begun := Src.begins a its.toArray
    have counting : IsEnum (counted z.heap a.obj) (z.heap.objs.size + 1) z.heap.objs.size 0 .none := up ▸ counted_is z.heap a.obj
    have first := Heap.get?_push_of_some (counter z.heap.objs.size) (Heap.get?_push_size z.heap (o := a.obj) begun.free)
    refine starts1 begun cell ?_
    rw [up]
    exact wpAny_pyIter_enum counting ⟨z.heap.objs.size + 1, [z.heap.objs.size + 1, z.heap.objs.size], _, _, H1, rfl, J.kept (t' := z.toks) keep, turn1 (a := a) (Nat.succ_ne_self _) (Nat.ne_of_gt (Nat.lt_succ_of_lt lt)) (Nat.ne_of_lt lt),
      ⟨⟨.none, counting⟩, Src.new first⟩, free_new J (fun c m => (List.mem_cons.mp m).elim (fun e => e ▸ Nat.le_succ _) fun m => Nat.le_of_eq (List.eq_of_mem_singleton m).symm), walk few⟩) one rfl))⟩
/-! ### a list, a tuple or a text, whichever it is -/
def i0 (K : PySem.W.Frag) (te : TE) : TI := fun σ H R => te σ H fun x H1 => (∃ (a : Addr) (xs : List V), x = .ref a ∧ SqL K H1 a xs ∧ (xs.length ≤ sizeLine → R (Itl K a) H1)) ∨ (∃ (a : Addr) (xs : List V), x = .ref a ∧ SqT K H1 a xs ∧ (xs.length ≤ sizeLine → R (Itt K a) H1)) ∨ ∃ z, x = .str z ∧ R (Its z) H1
theorem pi_any {X : Cx} {tg e : Expr} {te : TE} (he : PE X e te) : PI X tg e (i0 X.K te) := by
  refine ⟨fun pn s σ H R I k => ?_⟩
  -- what e yields is known only as it runs: the rest is the rule of its kind
  refine thn (he.run pn s σ H _ I k) fun v s1 ⟨x, H1, I1, r1, q1⟩ => ?_
  rcases q1 with ⟨a, xs, rfl, hq, q⟩ | ⟨a, xs, rfl, hq, q⟩ | ⟨z, rfl, q⟩
  · cases r1
    obtain ⟨us, rv, p, hz⟩ := I1.list hq
    exact wpAny_pyIter_list p.isList (pi_one (tk := s1.toks) I1 _ (turn_list a _) ⟨_, Heap.get?_push_size _ rfl, rfl, rfl⟩ (q hz))
  · cases r1
    obtain ⟨us, rv, p, hz⟩ := I1.tuple hq
    exact wpAny_pyIter_tuple (show s1.heap.IsTuple a us.toArray from p) (pi_one (tk := s1.toks) I1 _ (turn_tuple a _) ⟨_, Heap.get?_push_size _ rfl, rfl, rfl⟩ (q hz))
  · obtain ⟨t, rfl⟩ := r1
    by_cases ha : z.cps.all (· < 128) = true
    · exact wpAny_pyIter_ascii ha (pi_one (tk := s1.toks) I1 _ (turn_str _ z t "str_ascii_iterator" (.inl rfl)) ⟨_, Heap.get?_push_size _ rfl, rfl, rfl⟩ q)
    · exact wpAny_pyIter_wide (Bool.not_eq_true _ ▸ ha) (pi_one (tk := s1.toks) I1 _ (turn_str _ z t "str_iterator" (.inr rfl)) ⟨_, Heap.get?_push_size _ rfl, rfl, rfl⟩ q)
end Ev
end

section
set_option Elab.async false
set_option linter.all false
set_option maxRecDepth 100000
namespace Ev
open PySem L2 PyProof.Rows
variable [TabList]
/-- what a statement may do -/
structure SStep (env : Env) (σ : L2.St) (m : List Addr) (H : Hp) (env' : Env) (σ' : L2.St) (m' : List Addr) (H' : Hp) : Prop where
  more : ∃ r, m' = m ++ r ∧ ∀ a ∈ r, H a = none
  keep : ∀ a o (_ : H a = some o) (_ : a ∉ m) (_ : ¬ isOwn env σ a) (_ : NT o := by intro ps z; cases z), H' a = some o ∧ ¬ isOwn env' σ' a
  there : ∀ a o, H a = some o → ∃ o', H' a = some o'
  tabs : ∀ _ : Unit, LamX.Tabs TabList.T H → LamX.Tabs TabList.T H'
section
variable {K : PySem.W.Frag} {g : Gh} {env env' env'' : Env} {hp hp' : Heap} {m m' m'' : List Addr} {σ σ' σ'' : L2.St} {H H' H'' : Hp}
theorem SStep.refl : SStep env σ m H env σ m H := ⟨⟨[], by simp, by simp⟩, fun _ _ h _ n _ => ⟨h, n⟩, fun _ o h => ⟨o, h⟩, fun _ t => t⟩
theorem SStep.of (s : Step m H m' H') (so : SameOwn env σ env' σ') : SStep env σ m H env' σ' m' H' := ⟨s.more, fun a o h n k nt => ⟨s.keep a o h n nt, fun z => k ((so a).mp z)⟩, s.there, s.tabs⟩
theorem SStep.off (s : SStep env σ m H env' σ' m' H') {a : Addr} {o : HO} (h : H a = some o) (n : a ∉ m) : a ∉ m' := by
  obtain ⟨⟨r, e, f⟩, _, _, _⟩ := s
  subst e
  intro z
  rcases List.mem_append.mp z with q | q
  · exact n q
  · rw [f a q] at h
    cases h
theorem SStep.trans (a : SStep env σ m H env' σ' m' H') (b : SStep env' σ' m' H' env'' σ'' m'' H'') : SStep env σ m H env'' σ'' m'' H'' := by
  refine ⟨?_, fun x o h n k nt => ?_, fun x o h => ?_, fun T t => b.tabs T (a.tabs T t)⟩
  · obtain ⟨r, e1, f1⟩ := a.more
    obtain ⟨q, e2, f2⟩ := b.more
    subst e1 e2
    refine ⟨r ++ q, by simp, fun x hx => ?_⟩
    obtain h | h := List.mem_append.mp hx
    · exact f1 x h
    · cases e : H x with
      | none => rfl
      | some o =>
        obtain ⟨o', h'⟩ := a.there x o e
        rw [f2 x h] at h'
        cases h'
  · obtain ⟨h1, k1⟩ := a.keep x o h n k nt
    exact b.keep x o h1 (a.off h n) k1 nt
  · obtain ⟨o', h'⟩ := a.there x o h
    exact b.there x o' h'
theorem SStep.get (s : SStep env σ m H env' σ' m' H') {k : Nat} {a : Addr} (h : m[k]? = some a) : m'[k]? = some a := by
  obtain ⟨⟨r, e, _⟩, _, _, _⟩ := s
  subst e
  obtain ⟨hl, hv⟩ := List.getElem?_eq_some_iff.mp h
  rw [List.getElem?_append_left hl]
  exact h
theorem StRel.at_own (S : StRel K g env hp m σ H) {a : Addr} (h : isOwn env σ a) : ∃ o, H a = some o ∧ Dat o := by
  obtain ⟨i, d, h1, h2⟩ := h
  obtain ⟨b, o, e1, e2, e3, _⟩ := S.slots i _ h1
  rw [h2] at e1
  cases e1
  exact ⟨o, e2, e3.dat⟩
theorem StRel.nown (S : StRel K g env hp m σ H) {a : Addr} {o : HO} (h : H a = some o) (nd : ¬ Dat o) : ¬ isOwn env σ a := fun z => by
  obtain ⟨u, e, hd⟩ := S.at_own z
  rw [h] at e
  exact nd (Option.some.inj e ▸ hd)
/-- what no value may be stays -/
theorem StRel.fixS (S : StRel K g env hp m σ H) (s : SStep env σ m H env' σ' m' H') {a : Addr} {o : HO} (h : H a = some o) (nd : ¬ Dat o) (nt : NT o) : H' a = some o := (s.keep a o h (S.at_m.off h nd) (S.nown h nd) nt).1
theorem StRel.own_new (S : StRel K g env hp m σ H) {a : Addr} (h : isOwn env σ a) : g.H0 a = none := by
  obtain ⟨i, d, h1, h2⟩ := h
  obtain ⟨b, o, e1, _, _, e2, _⟩ := S.slots i _ h1
  rw [h2] at e1
  cases e1
  exact e2
theorem sqt_sstep (S : StRel K g env hp m σ H) (s : SStep env σ m H env' σ' m' H') {a : Addr} {vs : List V} (h : SqT K H a vs) : SqT K H' a vs := by
  obtain (h | ⟨o, h⟩) | h := h
  · exact .inl (.inl (S.fixS s h (fun z => z) fun _ z => by cases z))
  · exact .inl (.inr ⟨o, S.fixS s h (fun z => z) fun _ z => by cases z⟩)
  · exact .inr h
theorem fbd_sstep (s : SStep env σ m H env' σ' m' H') {a : Addr} {o : HO} (h : H a = some o) (n : ¬ Fbd g env σ m a) (nt : NT o := by intro ps z; cases z) : H' a = some o ∧ ¬ Fbd g env' σ' m' a := by
  have hm : a ∉ m := fun z => n (.inr (.inr z))
  obtain ⟨h1, h2⟩ := s.keep a o h hm (fun z => n (.inr (.inl z))) nt
  refine ⟨h1, ?_⟩
  rintro (z | z | z)
  · exact n (.inl z)
  · exact h2 z
  · exact s.off h hm z
theorem Rep.sstep (S : StRel K g env hp m σ H) (s : SStep env σ m H env' σ' m' H') {v : V} {d : D} (r : Rep K (Fbd g env σ m) m H v d) : Rep K (Fbd g env' σ' m') m' H' v d :=
  r.move (fun _ _ h => sqt_sstep S s h) (fun a o h hd n => fbd_sstep s h n hd.nt) fun _ _ h => s.get h
theorem RepL.sstep (S : StRel K g env hp m σ H) (s : SStep env σ m H env' σ' m' H') {v : List V} {d : List D} (r : RepL K (Fbd g env σ m) m H v d) : RepL K (Fbd g env' σ' m') m' H' v d :=
  r.move (fun _ _ h => sqt_sstep S s h) (fun a o h hd n => fbd_sstep s h n hd.nt) fun _ _ h => s.get h

/-! ### a list under construction is caught by nothing -/
def Gh.guard (g : Gh) (a : Addr) : Gh := { g with Pr := fun b => g.Pr b ∨ b = a }
theorem guard_fbd {a b : Addr} : Fbd (g.guard a) env σ m b ↔ Fbd g env σ m b ∨ b = a := by
  unfold Fbd Gh.guard
  constructor
  · rintro ((h | h) | h | h)
    · exact .inl (.inl h)
    · exact .inr h
    · exact .inl (.inr (.inl h))
    · exact .inl (.inr (.inr h))
  · rintro ((h | h | h) | h)
    · exact .inl (.inl h)
    · exact .inr (.inl h)
    · exact .inr (.inr h)
    · exact .inl (.inr h)
theorem guard_step {L : Addr} (s : Step m H m' H') (hD : H L = none) {a : Addr} {o : HO} (h : H a = some o) (n : ¬ Fbd g env σ m a) (nt : NT o := by intro ps z; cases z) : H' a = some o ∧ ¬ Fbd (g.guard L) env σ m' a :=
  ⟨s.keep a _ h (fun z => n (.inr (.inr z))) nt, fun z => (guard_fbd.mp z).elim (fbd_step s h n) fun e => by
    subst e
    rw [hD] at h
    cases h⟩
theorem Rep.gstep {L : Addr} (S : StRel K g env hp m σ H) (s : Step m H m' H') (hD : H L = none) {v : V} {d : D} (r : Rep K (Fbd g env σ m) m H v d) : Rep K (Fbd (g.guard L) env σ m') m' H' v d :=
  r.move (fun _ _ h => sqt_step S.at_m s h) (fun a o h hd n => guard_step s hD h n hd.nt) fun _ _ h => s.get h
theorem RepL.gstep {L : Addr} (S : StRel K g env hp m σ H) (s : Step m H m' H') (hD : H L = none) {v : List V} {d : List D} (r : RepL K (Fbd g env σ m) m H v d) : RepL K (Fbd (g.guard L) env σ m') m' H' v d :=
  r.move (fun _ _ h => sqt_step S.at_m s h) (fun a o h hd n => guard_step s hD h n hd.nt) fun _ _ h => s.get h
/-- a guarded object changes: who reads does not see it -/
theorem Rep.updIn {a : Addr} {o : HO} (ha : Free H a) (hf : Fbd g env σ m a) {v : V} {d : D} (r : Rep K (Fbd g env σ m) m H v d) : Rep K (Fbd g env σ m) m (L2.upd H a o) v d := by
  refine r.move (fun b vs h => ?_) (fun b u h hd n => ?_) fun _ _ h => h
  · rcases h with (h | ⟨o', h⟩) | h
    · exact .inl (.inl (by rw [upd_ne (ha.ne h fun z => z)]; exact h))
    · exact .inl (.inr ⟨o', by rw [upd_ne (ha.ne h fun z => z)]; exact h⟩)
    · exact .inr h
  · have ne : b ≠ a := fun z => n (z ▸ hf)
    exact ⟨by rw [upd_ne ne]; exact h, n⟩
theorem RepL.updIn {a : Addr} {o : HO} (ha : Free H a) (hf : Fbd g env σ m a) : ∀ {vs : List V} {ds : List D}, RepL K (Fbd g env σ m) m H vs ds → RepL K (Fbd g env σ m) m (L2.upd H a o) vs ds
  | _, _, .nil => .nil
  | _, _, .cons h r => .cons (h.updIn ha hf) (RepL.updIn ha hf r)
/-! ### walks -/
/-- how far things may move: as a statement does (true), as an expression does, the own lists the same (false) -/
def Mv (b : Bool) (env : Env) (σ : L2.St) (m : List Addr) (H : Hp) (env' : Env) (σ' : L2.St) (m' : List Addr) (H' : Hp) : Prop :=
  if b = true then SStep env σ m H env' σ' m' H' else Step m H m' H' ∧ SameOwn env σ env' σ'
theorem Mv.s {b : Bool} (h : Mv b env σ m H env' σ' m' H') : SStep env σ m H env' σ' m' H' := by
  cases b with
  | true => exact h
  | false => exact SStep.of h.1 h.2
/-- what is walked stands for xs, as long as ok holds -/
structure WalkOk (K : PySem.W.Frag) (b : Bool) (J : It) (xs : List D) (ok : Gh → Env → L2.St → List Addr → Hp → Prop) : Prop where
  go : ∀ g env hp σ m H i, StRel K g env hp m σ H → ok g env σ m H → i < xs.length → J.go i H ∧ ∀ x H', J.yld i H x H' → Ext H H' ∧ ∃ d, xs[i]? = some d ∧ Rep K (Fbd g env σ m) m H' x d
  stop : ∀ g env σ m H, ok g env σ m H → J.stop xs.length H
  keep : ∀ g env hp σ m H env' σ' m' H', StRel K g env hp m σ H → Mv b env σ m H env' σ' m' H' → ok g env σ m H → ok g env' σ' m' H'
  grd : ∀ g env hp σ m H L m' H', StRel K g env hp m σ H → H L = none → Step m H m' H' → ok g env σ m H → ok (g.guard L) env σ m' H'
  grow : ∀ g env σ m H L ys zs, g.Pr L → g.H0 L = none → H L = some (.lst ys) → ok g env σ m H → ok g env σ m (upd H L (.lst zs))
def SrcOk (K : PySem.W.Frag) (g : Gh) (b : Bool) (c : Src) (xs : List D) (env : Env) (σ : L2.St) (m : List Addr) (H : Hp) : Prop :=
  match c with
  | .lst a => ∃ vs, Bor K m H a vs ∧ (b = true → isOwn env σ a → SqL K (fun _ => none) a vs) ∧ RepL K (Fbd g env σ m) m H vs xs ∧ (g.Pr a → g.H0 a = none → SqL K (fun _ => none) a vs)
  | .tup a => ∃ vs, SqT K H a vs ∧ RepL K (Fbd g env σ m) m H vs xs
theorem SrcOk.sq {b : Bool} {c : Src} {xs : List D} (h : SrcOk K g b c xs env σ m H) : ∃ vs, c.sq K H vs ∧ RepL K (Fbd g env σ m) m H vs xs := by
  cases c with
  | lst a =>
    obtain ⟨vs, h1, _, h2, _⟩ := h
    exact ⟨vs, h1.sql, h2⟩
  | tup a =>
    obtain ⟨vs, h1, h2⟩ := h
    exact ⟨vs, h1, h2⟩
theorem SrcOk.keep {b : Bool} {c : Src} {xs : List D} (S : StRel K g env hp m σ H) (s : Mv b env σ m H env' σ' m' H') (h : SrcOk K g b c xs env σ m H) : SrcOk K g b c xs env' σ' m' H' := by
  cases c with
  | tup a =>
    obtain ⟨vs, h1, h2⟩ := h
    exact ⟨vs, sqt_sstep S s.s h1, h2.sstep S s.s⟩
  | lst a =>
    obtain ⟨vs, h1, h2, h3, h4⟩ := h
    cases b with
    | false =>
      obtain ⟨st, so⟩ := s
      exact ⟨vs, h1.step st, fun z => (Bool.noConfusion z), h3.sstep S (SStep.of st so), h4⟩
    | true =>
      have s : SStep env σ m H env' σ' m' H' := s
      have h2 := h2 rfl
      refine ⟨vs, ?_, fun _ z => ?_, h3.sstep S s, h4⟩
      · rcases h1 with ⟨h | ⟨o, h⟩, n⟩ | h
        · by_cases w : isOwn env σ a
          · exact .inr (h2 w)
          · exact .inl ⟨.inl (s.keep a _ h n w).1, s.off h n⟩
        · by_cases w : isOwn env σ a
          · exact .inr (h2 w)
          · exact .inl ⟨.inr ⟨o, (s.keep a _ h n w).1⟩, s.off h n⟩
        · exact .inr h
      · rcases h1 with ⟨h, n⟩ | h
        · by_cases w : isOwn env σ a
          · exact h2 w
          · rcases h with h | ⟨o, h⟩
            · exact absurd z (s.keep a _ h n w).2
            · exact absurd z (s.keep a _ h n w).2
        · exact h
theorem SrcOk.grd {b : Bool} {c : Src} {xs : List D} {L : Addr} (S : StRel K g env hp m σ H) (hD : H L = none) (s : Step m H m' H') (h : SrcOk K g b c xs env σ m H) : SrcOk K (g.guard L) b c xs env σ m' H' := by
  cases c with
  | tup a =>
    obtain ⟨vs, h1, h2⟩ := h
    exact ⟨vs, sqt_step S.at_m s h1, h2.gstep S s hD⟩
  | lst a =>
    obtain ⟨vs, h1, h2, h3, h4⟩ := h
    refine ⟨vs, h1.step s, h2, h3.gstep S s hD, fun z z0 => z.elim (fun z => h4 z z0) fun z => ?_⟩
    subst z
    rcases h1 with ⟨h | ⟨o, h⟩, _⟩ | h
    · rw [hD] at h
      cases h
    · rw [hD] at h
      cases h
    · exact h
theorem SrcOk.grow {b : Bool} {c : Src} {xs : List D} {L : Addr} {ys zs : List V} (hL : g.Pr L) (h0 : g.H0 L = none) (hv : H L = some (.lst ys)) (h : SrcOk K g b c xs env σ m H) : SrcOk K g b c xs env σ m (upd H L (.lst zs)) := by
  have hf : Fbd g env σ m L := .inl hL
  have fr : Free H L := .inr ⟨_, hv, trivial⟩
  cases c with
  | tup a =>
    obtain ⟨vs, h1, h2⟩ := h
    refine ⟨vs, ?_, h2.updIn fr hf⟩
    rcases h1 with (h | ⟨o, h⟩) | h
    · exact .inl (.inl (by rw [upd_ne (fr.ne h fun z => z)]; exact h))
    · exact .inl (.inr ⟨o, by rw [upd_ne (fr.ne h fun z => z)]; exact h⟩)
    · exact .inr h
  | lst a =>
    obtain ⟨vs, h1, h2, h3, h4⟩ := h
    refine ⟨vs, ?_, h2, h3.updIn fr hf, h4⟩
    by_cases e : a = L
    · exact .inr (h4 (e ▸ hL) (e ▸ h0))
    · rcases h1 with ⟨h | ⟨o', h⟩, n⟩ | h
      · exact .inl ⟨.inl (by rw [upd_ne e]; exact h), n⟩
      · exact .inl ⟨.inr ⟨o', by rw [upd_ne e]; exact h⟩, n⟩
      · exact .inr h
/-- the ways of walking -/
def Src.J (K : PySem.W.Frag) : Src → It
  | .lst a => Itl K a
  | .tup a => Itt K a
theorem walk_src (b : Bool) (c : Src) (xs : List D) : WalkOk K b (c.J K) xs (fun g => SrcOk K g b c xs) := by
  refine ⟨fun g env hp σ m H i S h hi => ?_, fun g env σ m H h => ?_, fun g env hp σ m H env' σ' m' H' S s h => h.keep S s, fun g env hp σ m H L m' H' S hD s h => h.grd S hD s, fun g env σ m H L ys zs hL h0 hv h => h.grow hL h0 hv⟩
  · obtain ⟨vs, h1, h2⟩ := h.sq
    obtain ⟨v, hv, rv⟩ := h2.get (List.getElem?_eq_getElem hi)
    cases c with
    | lst a =>
      refine ⟨⟨vs, v, h1, hv⟩, fun x H' y => ?_⟩
      obtain ⟨e, y⟩ := y
      have y := y vs h1
      rw [hv] at y
      cases y
      subst e
      exact ⟨Evl.Ex.refl _, _, List.getElem?_eq_getElem hi, rv⟩
    | tup a =>
      refine ⟨⟨vs, v, h1, hv⟩, fun x H' y => ?_⟩
      obtain ⟨e, y⟩ := y
      have y := y vs h1
      rw [hv] at y
      cases y
      subst e
      exact ⟨Evl.Ex.refl _, _, List.getElem?_eq_getElem hi, rv⟩
  · obtain ⟨vs, h1, h2⟩ := h.sq
    have := h2.length
    cases c with
    | lst a => exact ⟨vs, h1, by omega⟩
    | tup a => exact ⟨vs, h1, by omega⟩
theorem walk_text (b : Bool) (z : Str) : WalkOk K b (Its z) (strD z) (fun _ _ _ _ _ => True) := by
  have hl : (strD z).length = z.cps.size := by simp [strD]
  refine ⟨fun g env hp σ m H i S h hi => ⟨by (first | show i < z.cps.size | show i < n); rw [← hl]; exact hi, fun x H' y => ?_⟩, fun g env σ m H h => ?_, fun _ _ _ _ _ _ _ _ _ _ _ _ _ => trivial, fun _ _ _ _ _ _ _ _ _ _ _ _ _ => trivial, fun _ _ _ _ _ _ _ _ _ _ _ _ => trivial⟩
  · obtain ⟨e, c, hc, rfl⟩ := y
    subst e
    refine ⟨Evl.Ex.refl _, .str ⟨#[c]⟩, ?_, .str _⟩
    unfold strD
    rw [List.getElem?_map, Array.getElem?_toList, hc]
    rfl
  · show z.cps.size ≤ _
    rw [hl]
    exact Nat.le_refl _
theorem walk_rangeC (b : Bool) (lo c : Int) (n : Nat) : WalkOk K b (Itc lo c n) (rangeD lo c n) (fun _ _ _ _ _ => True) := by
  have hl : (rangeD lo c n).length = n := by simp [rangeD]
  refine ⟨fun g env hp σ m H i S h hi => ⟨by (first | show i < z.cps.size | show i < n); rw [← hl]; exact hi, fun x H' y => ?_⟩, fun g env σ m H h => ?_, fun _ _ _ _ _ _ _ _ _ _ _ _ _ => trivial, fun _ _ _ _ _ _ _ _ _ _ _ _ _ => trivial, fun _ _ _ _ _ _ _ _ _ _ _ _ => trivial⟩
  · obtain ⟨e, rfl⟩ := y
    subst e
    refine ⟨Evl.Ex.refl _, .int (lo + (i : Int) * c), ?_, .int _⟩
    unfold rangeD
    rw [hl] at hi
    rw [List.getElem?_map, List.getElem?_range hi]
    rfl
  · show n ≤ _
    rw [hl]
    exact Nat.le_refl _
theorem walk_range (b : Bool) (lo : Int) (n : Nat) : WalkOk K b (Itr lo n) (rangeD lo 1 n) (fun _ _ _ _ _ => True) := by
  have hl : (rangeD lo 1 n).length = n := by simp [rangeD]
  refine ⟨fun g env hp σ m H i S h hi => ⟨by (first | show i < z.cps.size | show i < n); rw [← hl]; exact hi, fun x H' y => ?_⟩, fun g env σ m H h => ?_, fun _ _ _ _ _ _ _ _ _ _ _ _ _ => trivial, fun _ _ _ _ _ _ _ _ _ _ _ _ _ => trivial, fun _ _ _ _ _ _ _ _ _ _ _ _ => trivial⟩
  · obtain ⟨e, rfl⟩ := y
    subst e
    refine ⟨Evl.Ex.refl _, .int (lo + (i : Int) * 1), ?_, ?_⟩
    · unfold rangeD
      rw [hl] at hi
      rw [List.getElem?_map, List.getElem?_range hi]
      rfl
    · rw [Int.mul_one]
      exact .int _
  · show n ≤ _
    rw [hl]
    exact Nat.le_refl _
theorem enumD_get : ∀ (xs : List D) (k i : Nat), (enumD k xs)[i]? = (xs[i]?).map fun x => D.tup [.int ((k + i : Nat) : Int), x]
  | [], _, _ => by simp [enumD]
  | x :: xs, k, 0 => by simp [enumD]
  | x :: xs, k, i + 1 => by
    rw [enumD, List.getElem?_cons_succ, List.getElem?_cons_succ, enumD_get xs (k + 1) i]
    have : k + 1 + i = k + (i + 1) := by omega
    rw [this]
theorem enumD_len : ∀ (xs : List D) (k : Nat), (enumD k xs).length = xs.length
  | [], _ => rfl
  | x :: xs, k => by rw [enumD, List.length_cons, List.length_cons, enumD_len xs]
theorem walk_enum (b : Bool) (c : Src) (xs : List D) : WalkOk K b (It1 K c) (enumD 0 xs) (fun g => SrcOk K g b c xs) := by
  refine ⟨fun g env hp σ m H i S h hi => ?_, fun g env σ m H h => ?_, fun g env hp σ m H env' σ' m' H' S s h => h.keep S s, fun g env hp σ m H L m' H' S hD s h => h.grd S hD s, fun g env σ m H L ys zs hL h0 hv h => h.grow hL h0 hv⟩
  · rw [enumD_len] at hi
    obtain ⟨vs, h1, h2⟩ := h.sq
    obtain ⟨v, hv, rv⟩ := h2.get (List.getElem?_eq_getElem hi)
    refine ⟨⟨vs, v, h1, hv⟩, fun x H' y => ?_⟩
    obtain ⟨T, y1, ⟨rfl, hT, rfl⟩, y2⟩ := y
    have y2 := y2 vs h1
    rw [hv] at y2
    cases y2
    refine ⟨Evl.Ex.new hT, _, by rw [enumD_get, List.getElem?_eq_getElem hi]; rfl, ?_⟩
    refine rep_new_tup hT (.cons ?_ (.cons rv .nil))
    rw [Nat.zero_add]
    exact .int _
  · obtain ⟨vs, h1, h2⟩ := h.sq
    exact ⟨vs, h1, by rw [enumD_len, h2.length]⟩
theorem walk_zip (b : Bool) (c d : Src) (xs ys : List D) : WalkOk K b (It2 K c d) (zipD xs ys) (fun g env σ m H => SrcOk K g b c xs env σ m H ∧ SrcOk K g b d ys env σ m H) := by
  refine ⟨fun g env hp σ m H i S h hi => ?_, fun g env σ m H h => ?_, fun g env hp σ m H env' σ' m' H' S s h => ⟨h.1.keep S s, h.2.keep S s⟩, fun g env hp σ m H L m' H' S hD s h => ⟨h.1.grd S hD s, h.2.grd S hD s⟩, fun g env σ m H L ys zs hL h0 hv h => ⟨h.1.grow hL h0 hv, h.2.grow hL h0 hv⟩⟩
  · unfold zipD at hi
    rw [List.length_zipWith] at hi
    obtain ⟨vs, h1, h2⟩ := h.1.sq
    obtain ⟨ws, k1, k2⟩ := h.2.sq
    have hi1 : i < xs.length := by omega
    have hi2 : i < ys.length := by omega
    obtain ⟨v, hv, rv⟩ := h2.get (List.getElem?_eq_getElem hi1)
    obtain ⟨u, hu, ru⟩ := k2.get (List.getElem?_eq_getElem hi2)
    refine ⟨⟨vs, ws, v, u, h1, k1, hv, hu⟩, fun x H' y => ?_⟩
    obtain ⟨T, y1, y2, ⟨rfl, hT, rfl⟩, y3, y4⟩ := y
    have y3 := y3 vs h1
    have y4 := y4 ws k1
    rw [hv] at y3
    rw [hu] at y4
    cases y3
    cases y4
    refine ⟨Evl.Ex.new hT, _, ?_, rep_new_tup hT (.cons rv (.cons ru .nil))⟩
    unfold zipD
    rw [List.getElem?_zipWith, List.getElem?_eq_getElem hi1, List.getElem?_eq_getElem hi2]
  · obtain ⟨vs, h1, h2⟩ := h.1.sq
    obtain ⟨ws, k1, k2⟩ := h.2.sq
    refine ⟨vs, ws, h1, k1, ?_⟩
    unfold zipD
    rw [List.length_zipWith, h2.length, k2.length]
/-- what is seen may be walked -/
def NoOwn (K : PySem.W.Frag) (g : Gh) (b : Bool) (env : Env) (σ : L2.St) (m : List Addr) (H : Hp) (v : V) (d : D) : Prop :=
  ∀ a ds, v = .ref a → d = .lst ds → (b = true ∧ isOwn env σ a) ∨ (g.Pr a ∧ g.H0 a = none) → ∃ vs, SqL K (fun _ => none) a vs ∧ RepL K (Fbd g env σ m) m H vs ds
theorem NoOwn.of_rep {b : Bool} {v : V} {d : D} (r : Rep K (Fbd g env σ m) m H v d) : NoOwn K g b env σ m H v d := fun a ds e1 e2 ho => by
  subst e1 e2
  cases r with
  | lst h n r => exact absurd (ho.elim (fun z => .inr (.inl z.2)) fun z => .inl z.1) n
theorem NoOwn.move {b : Bool} {v : V} {d : D} (S : StRel K g env hp m σ H) (st : Step m H m' H') (h : NoOwn K g b env σ m H v d) : NoOwn K g b env σ m' H' v d := fun a ds e1 e2 ho => by
  obtain ⟨vs, h1, h2⟩ := h a ds e1 e2 ho
  exact ⟨vs, h1, h2.step S.at_m st⟩
theorem RepW.lst_inv {Fb : Addr → Prop} {v : V} {ds : List D} (r : RepW K Fb m H v (.lst ds)) : Rep K Fb m H v (.lst ds) ∨ ∃ a vs, v = .ref a ∧ Bor K m H a vs ∧ RepL K Fb m H vs ds := by
  cases r with
  | of r => exact .inl r
  | lst h r => exact .inr ⟨_, _, rfl, h, r⟩
  | own h n r =>
    obtain ⟨vs, rfl, r⟩ := r
    exact .inr ⟨_, vs, rfl, .inl ⟨.inl h, n⟩, r⟩
theorem walk_of_rep {b : Bool} {v : V} {d : D} {xs : List D} (r : RepW K (Fbd g env σ m) m H v d) (h : walk? d = some xs) (hno : NoOwn K g b env σ m H v d) :
    (∃ c : Src, v = .ref c.at ∧ SrcOk K g b c xs env σ m H) ∨ ∃ z, v = .str z ∧ xs = strD z ∧ z.cps.size ≤ LIM := by
  cases d with
  | lst ds =>
    obtain rfl := Option.some.inj h
    rcases r.lst_inv with r | ⟨a, vs, rfl, h1, r⟩
    · cases r with
      | @lst a vs _ h1 n r => exact .inl ⟨.lst a, rfl, vs, .inl ⟨.inl h1, fun z => n (.inr (.inr z))⟩, fun _ z => absurd (.inr (.inl z)) n, r, fun z => absurd (.inl z) n⟩
    · by_cases ho : (b = true ∧ isOwn env σ a) ∨ (g.Pr a ∧ g.H0 a = none)
      · obtain ⟨ws, w1, w2⟩ := hno a ds rfl rfl ho
        exact .inl ⟨.lst a, rfl, ws, .inr w1, fun _ _ => w1, w2, fun _ _ => w1⟩
      · exact .inl ⟨.lst a, rfl, vs, h1, fun hb z => absurd (.inl ⟨hb, z⟩) ho, r, fun z z0 => absurd (.inr ⟨z, z0⟩) ho⟩
  | tup ds =>
    obtain rfl := Option.some.inj h
    obtain ⟨a, vs, rfl, h1, h2⟩ := r.v.tup_inv
    exact .inl ⟨.tup a, rfl, vs, h1, h2⟩
  | str z =>
    simp only [walk?, Option.ite_none_right_eq_some, Option.some.injEq] at h
    obtain ⟨hl, rfl⟩ := h
    obtain rfl := r.v.str_inv
    exact .inr ⟨z, rfl, rfl, hl⟩
  | _ => cases h
end
end Ev
end

section
set_option Elab.async false
set_option linter.all false
set_option maxRecDepth 100000
namespace Ev
open PySem L2 PyProof.Rows
variable [TabList]
variable (K : PySem.W.Frag) (Y : Yd) (g : Gh)
/-- seen, and (true) no own list of this body -/
def tW (b : Bool) (c : E) : TE := fun σ H Q => ∃ env hp m, StRel K g env hp m σ H ∧ RR (evE reprL Y.Γ c env hp) (fun d hp' =>
  ∀ v H' m', StRel K g env hp' m' σ H' → Step m H m' H' → RepW K (Fbd g env σ m') m' H' v d → NoOwn K g b env σ m' H' v d → Q v H') (XP K Y g env σ m H)
def tI (b : Bool) (c : E) : TI := fun σ H R => ∃ env hp m, StRel K g env hp m σ H ∧ RR (evE reprL Y.Γ c env hp) (fun s hp' => ∃ xs, walk? s = some xs ∧
  ∀ J ok H' m', StRel K g env hp' m' σ H' → Step m H m' H' → WalkOk K b J xs ok → ok g env σ m' H' → xs.length ≤ LIM → R J H') (XP K Y g env σ m H)
variable {K Y g}
section
variable {X : Cx}
theorem w_gen {b : Bool} {e : Expr} {c : E} (h : PE X e (tE X.K Y g c)) : PE X e (tW X.K Y g b c) :=
  peWeak h fun σ H Q ⟨env, hp, m, S, ev⟩ => ⟨env, hp, m, S, ev.imp (fun d hp' q v H' m' S' st r => q v H' m' S' st (.of r) (NoOwn.of_rep r)) fun _ _ _ _ x => x⟩
theorem w_view {i : Nat} {x : Str} {pos : Pos} (hN : X.N[i]? = some x) (hv : Vis X.env.scope x) (hd : (x == ("__debug__" : Str)) = false) (hcd : (x == ("__classdict__" : Str)) = false) : PE X (.Name x pos) (tW X.K Y g false (.view i)) :=
  peWeak (pe_var hN hv hd hcd) fun σ H Q ⟨env, hp, m, S, ev⟩ => by
    obtain ⟨x, d, hx, e, q⟩ := slot_RR (f := Sl.see) rfl ev
    rcases see_inv e with rfl | rfl | rfl
    · obtain ⟨v, h1, h2⟩ := S.slots i _ hx
      exact ⟨v, h1, q v H m S Step.refl (.of h2) (NoOwn.of_rep h2)⟩
    · obtain ⟨a, h1, h2, h3, _⟩ := own_repW S hx
      exact ⟨.ref a, h1, q _ H m S Step.refl h2 fun a' ds' e1 e2 ho => by
        cases e1
        exact ho.elim (fun z => Bool.noConfusion z.1) fun z => absurd z.1 h3⟩
    · obtain ⟨a, vs, ds, h1, rfl, h3, h4, h5⟩ := S.slots i _ hx
      exact ⟨.ref a, h1, q _ H m S Step.refl (.lst h3 h4) fun a' ds' e1 e2 ho => by
        cases e1
        cases e2
        exact ⟨vs, h5 (ho.elim (fun z => Bool.noConfusion z.1) fun z => z.2), h4⟩⟩
theorem v_of_w {b : Bool} {e : Expr} {c : E} (h : PE X e (tW X.K Y g b c)) : PE X e (tV X.K Y g c) :=
  peWeak h fun σ H Q ⟨env, hp, m, S, ev⟩ => ⟨env, hp, m, S, ev.imp (fun d hp' q v H' m' S' st r _ => q v H' m' S' st r) fun _ _ _ _ x => x⟩
theorem peek_inv {d : D} {x : Sl} (h : Sl.peek (some x) = some d) : x = .val d ∨ x = .bor d := by
  cases x <;> first | cases h | skip
  · exact .inl rfl
  · exact .inr rfl
theorem w_peek {b : Bool} {i : Nat} {x : Str} {pos : Pos} (hN : X.N[i]? = some x) (hv : Vis X.env.scope x) (hd : (x == ("__debug__" : Str)) = false) (hcd : (x == ("__classdict__" : Str)) = false) : PE X (.Name x pos) (tW X.K Y g b (.peek i)) :=
  peWeak (pe_var hN hv hd hcd) fun σ H Q ⟨env, hp, m, S, ev⟩ => by
    obtain ⟨x, d, hx, e, q⟩ := slot_RR (f := Sl.peek) rfl ev
    rcases peek_inv e with rfl | rfl
    · obtain ⟨v, h1, h2⟩ := S.slots i _ hx
      exact ⟨v, h1, q v H m S Step.refl (.of h2) (NoOwn.of_rep h2)⟩
    · obtain ⟨a, vs, ds, h1, rfl, h3, h4, h5⟩ := S.slots i _ hx
      exact ⟨.ref a, h1, q _ H m S Step.refl (.lst h3 h4) fun a' ds' e1 e2 ho => by
        cases e1
        cases e2
        exact ⟨vs, h5 (ho.elim (fun z => S.own_new z.2) fun z => z.2), h4⟩⟩
/-! ### walks -/
theorem i_any {b : Bool} {tg e : Expr} {c : E} (h : PE X e (tW X.K Y g b c)) : PI X tg e (tI X.K Y g b c) := by
  refine ⟨fun pins s σ H R0 I q => (pi_any h).run pins s σ H R0 I ?_⟩
  obtain ⟨env, hp, m, S, ev⟩ := q
  refine ⟨env, hp, m, S, ev.imp (fun d hp' ⟨xs, hx, q⟩ v H' m' S' st r no => ?_) fun _ _ _ _ x => x⟩
  rcases walk_of_rep r hx no with ⟨c', rfl, ok⟩ | ⟨z, rfl, rfl, hz⟩
  · obtain ⟨vs, hs, hrl⟩ := ok.sq
    cases c' with
    | lst a => exact .inl ⟨a, vs, rfl, hs, fun hz => q _ _ H' m' S' st (walk_src b (.lst a) xs) ok (by rw [LIM_eq, ← hrl.length]; exact hz)⟩
    | tup a => exact .inr (.inl ⟨a, vs, rfl, hs, fun hz => q _ _ H' m' S' st (walk_src b (.tup a) xs) ok (by rw [LIM_eq, ← hrl.length]; exact hz)⟩)
  · exact .inr (.inr ⟨z, rfl, q _ _ H' m' S' st (walk_text b z) trivial (by rw [strD, List.length_map]; exact hz)⟩)
theorem rangeD_len (a c : Int) (n : Nat) : (rangeD a c n).length = n := by simp [rangeD]
theorem small62_iff {a : Int} (h : small62 a = true) : -(2 ^ 62) ≤ a ∧ a < 2 ^ 62 := by
  unfold small62 at h
  simpa using h
theorem i_range1 {b : Bool} {tg a : Expr} {c : E} {p pos : Pos} (hg : Gl X "range") (hm : X.mg "range" = none) (h : PE X a (tV X.K Y g c)) (ns : notStar a = true) : PI X tg (.Call (.Name "range" p) [a] [] pos) (tI X.K Y g b (.op1 .range c)) := by
  refine ⟨fun pins s σ H R0 I q => (pi_range1 hg hm (pa_cons h pa_nil (star_cons ns [] X.env)) (star_cons ns [] X.env)).run pins s σ H R0 I ?_⟩
  obtain ⟨env, hp, m, S, ev⟩ := q
  refine ⟨env, hp, m, S, (RR.bind (r := evE reprL Y.Γ c env hp) ev).imp (fun y h1 ev v H1 m1 S1 st1 r1 => ?_) fun _ _ _ _ x => x⟩
  obtain ⟨d, e3, xs, hx, q⟩ := ev.lift
  obtain ⟨y', d1, ho⟩ := Option.bind_eq_some_iff.mp e3
  cases y' <;> simp only [o1, reduceCtorEq, Option.ite_none_right_eq_some, Option.some.injEq, Bool.and_eq_true, decide_eq_true_eq] at ho
  rename_i n
  obtain ⟨⟨hs, hl⟩, rfl⟩ := ho
  obtain rfl := Option.some.inj hx
  obtain rfl := deref_int d1
  obtain ⟨s1, s2⟩ := small62_iff hs
  obtain rfl := r1.v.int_inv
  exact ⟨n, rfl, s1, s2, q _ _ H1 m1 S1 st1 (walk_range b 0 n.toNat) trivial (by rw [rangeD_len]; show n.toNat ≤ 16777216; have : (LIM : Int) = 16777216 := rfl; omega)⟩
theorem i_range2 {b : Bool} {tg a a2 : Expr} {c c2 : E} {p pos : Pos} (hg : Gl X "range") (hm : X.mg "range" = none) (h : PE X a (tV X.K Y g c)) (h2 : PE X a2 (tV X.K Y g c2)) (ns : notStar a = true) (ns2 : notStar a2 = true) :
    PI X tg (.Call (.Name "range" p) [a, a2] [] pos) (tI X.K Y g b (.op2 .range c c2)) := by
  refine ⟨fun pins s σ H R0 I q => (pi_range2 hg hm (pa_cons h (pa_cons h2 pa_nil (star_cons ns2 [] X.env)) (star_cons ns [a2] X.env)) (by rw [star_cons ns, star_cons ns2]; rfl) (star_cons ns2 [] X.env)).run pins s σ H R0 I ?_⟩
  obtain ⟨env, hp, m, S, ev⟩ := q
  refine ⟨env, hp, m, S, ev.op2.imp (fun u h1 ev v H1 m1 S1 st1 r1 => ⟨env, h1, m1, S1, ev.imp (fun w h2' ev v2 H2 m2 S2 st2 r2 => ?_) fun _ _ _ _ x => x.step st1⟩) fun _ _ _ _ x => x⟩
  obtain ⟨u', w', d, d1, d2, ho, xs, hx, q⟩ := ev
  have hw : ∃ i j, u' = .int i ∧ w' = .int j ∧ small62 i = true ∧ small62 j = true ∧ (j - i).toNat ≤ LIM ∧ d = .lst (rangeD i 1 (j - i).toNat) := by
    cases u' <;> cases w' <;> simp only [o2, reduceCtorEq, Option.ite_none_right_eq_some, Option.some.injEq, Bool.and_eq_true, decide_eq_true_eq] at ho
    exact ⟨_, _, rfl, rfl, ho.1.1.1, ho.1.1.2, ho.1.2, ho.2.symm⟩
  obtain ⟨i, j, rfl, rfl, hi, hj, hlen, rfl⟩ := hw
  obtain rfl := Option.some.inj hx
  obtain rfl := deref_int d1
  obtain rfl := deref_int d2
  obtain ⟨s1, s2⟩ := small62_iff hi
  obtain ⟨s3, s4⟩ := small62_iff hj
  obtain rfl := r1.v.int_inv
  obtain rfl := r2.v.int_inv
  exact ⟨i, j, rfl, ⟨s1, s2, s3, s4⟩, q _ _ H2 m2 S2 (st1.trans st2) (walk_range b i (j - i).toNat) trivial (by rw [rangeD_len]; exact hlen)⟩
theorem rgC_of {a b c : Int} (ha : small62 a = true) (hb : small62 b = true) (h0 : c ≠ 0) (hc : c.natAbs < 2 ^ 30) : RgC a b c (turns a b c) := by
  obtain ⟨a1, a2⟩ := small62_iff ha
  obtain ⟨b1, b2⟩ := small62_iff hb
  have hc' : c.natAbs < 1073741824 := hc
  have e63 : (2 : Int) ^ 63 = 9223372036854775808 := by decide
  have e62 : (2 : Int) ^ 62 = 4611686018427387904 := by decide
  rw [e62] at a1 a2 b1 b2
  have size : 0 ≤ Builtin.Range.rangeSize a b c ∧ Builtin.Range.rangeSize a b c < 9223372036854775808 ∧ Builtin.Range.rangeSize a b c = turns a b c := by
    unfold turns Builtin.Range.rangeSize
    by_cases hp : 0 < c
    · rw [if_pos (show c > 0 from hp), if_pos hp]
      split
      · have h1 : 0 ≤ (b - a - 1) / c := Int.ediv_nonneg (by omega) (by omega)
        have h2 : (b - a - 1) / c ≤ b - a - 1 := Int.ediv_le_self _ (by omega)
        omega
      · decide
    · rw [if_neg (show ¬ c > 0 from hp), if_neg hp]
      by_cases hq : b < a
      · rw [if_pos (show a > b from hq), if_pos hq]
        have h1 : 0 ≤ (a - b - 1) / (-c) := Int.ediv_nonneg (by omega) (by omega)
        have h2 : (a - b - 1) / (-c) ≤ a - b - 1 := Int.ediv_le_self _ (by omega)
        omega
      · rw [if_neg (show ¬ a > b from hq), if_neg hq]
        decide
  refine ⟨h0, hc', ?_, size.2.2⟩
  unfold Builtin.Range.small
  simp only [Builtin.Range.rangeFitsLong, Bool.and_eq_true, Bool.or_eq_true, decide_eq_true_eq, beq_iff_eq]
  rw [e63]
  refine ⟨⟨⟨⟨by omega, by omega⟩, by omega⟩, by omega⟩, .inr ?_⟩
  split
  · simp only [andI, decI]
    omega
  · simp only [andI, decI]
    omega
theorem i_range3 {b : Bool} {tg a a2 a3 : Expr} {c c2 c3 : E} {p pos : Pos} (hg : Gl X "range") (hm : X.mg "range" = none) (h : PE X a (tV X.K Y g c)) (h2 : PE X a2 (tV X.K Y g c2)) (h3 : PE X a3 (tV X.K Y g c3))
    (ns : notStar a = true) (ns2 : notStar a2 = true) (ns3 : notStar a3 = true) : PI X tg (.Call (.Name "range" p) [a, a2, a3] [] pos) (tI X.K Y g b (.op3 .range c c2 c3)) := by
  refine ⟨fun pins s σ H R0 I q => (pi_range3 hg hm (pa_cons h (pa_cons h2 (pa_cons h3 pa_nil (star_cons ns3 [] X.env)) (star_cons ns2 [a3] X.env)) (star_cons ns [a2, a3] X.env)) (star_cons ns [a2, a3] X.env)
    (by rw [star_cons ns2, star_cons ns3]; rfl)).run pins s σ H R0 I ?_⟩
  obtain ⟨env, hp, m, S, ev⟩ := q
  refine ⟨env, hp, m, S, (RR.bind (r := evE reprL Y.Γ c env hp) ev).imp (fun u h1 ev v H1 m1 S1 st1 r1 => ⟨env, h1, m1, S1, (RR.bind (r := evE reprL Y.Γ c2 env h1) ev).imp (fun w h2' ev v2 H2 m2 S2 st2 r2 => ?_) fun _ _ _ _ x => x.step st1⟩) fun _ _ _ _ x => x⟩
  obtain ⟨y, h3', e3, ev⟩ := (RR.bind (r := calmly (evE reprL Y.Γ c3 env h2')) ev).calm
  obtain ⟨d, ev, xs, hx, q⟩ := ev.lift
  obtain ⟨u', d1, ho⟩ := Option.bind_eq_some_iff.mp ev
  have hw : ∃ i j k, u' = .int i ∧ w = .int j ∧ y = .int k ∧ small62 i = true ∧ small62 j = true ∧ k ≠ 0 ∧ k.natAbs < 2 ^ 30 ∧ turns i j k ≤ LIM ∧ d = .lst (rangeD i k (turns i j k)) := by
    cases u' <;> cases w <;> cases y <;> simp only [o3, slD, reduceCtorEq, Option.ite_none_right_eq_some, Option.some.injEq, Bool.and_eq_true, decide_eq_true_eq] at ho
    exact ⟨_, _, _, rfl, rfl, rfl, ho.1.1.1.1.1, ho.1.1.1.1.2, ho.1.1.1.2, ho.1.1.2, ho.1.2, ho.2.symm⟩
  obtain ⟨i, j, k, rfl, rfl, rfl, hi, hj, hk0, hk, hlen, rfl⟩ := hw
  obtain rfl := Option.some.inj hx
  obtain rfl := deref_int d1
  refine ⟨env, h2', m2, S2, .of e3 fun v3 H3 m3 S3 st3 r3 => ?_⟩
  obtain rfl := r1.v.int_inv
  obtain rfl := r2.v.int_inv
  obtain rfl := r3.v.int_inv
  exact ⟨i, j, k, _, rfl, rgC_of hi hj hk0 hk, q _ _ H3 m3 S3 ((st1.trans st2).trans st3) (walk_rangeC b i k _) trivial (by rw [rangeD_len]; exact hlen)⟩
theorem items_src {b : Bool} {v : V} {d : D} {xs : List D} {env : Env} {σ : L2.St} {m : List Addr} {H : Hp} {ctx : PySem.W.Frag} (r : RepW ctx (Fbd g env σ m) m H v d) (h : items? d = some xs) (hno : NoOwn ctx g b env σ m H v d) :
    ∃ c : Src, v = .ref c.at ∧ SrcOk ctx g b c xs env σ m H := by
  have hw : walk? d = some xs := by cases d <;> first | exact h | cases h
  rcases walk_of_rep r hw hno with z | ⟨z, rfl, _, _⟩
  · exact z
  · have := r.v
    cases d with
    | str y => cases h
    | lst ds =>
      obtain ⟨a, _, e, _⟩ := this.lst_inv
      cases e
    | tup ds =>
      obtain ⟨a, _, e, _⟩ := this.tup_inv
      cases e
    | _ => cases h
theorem i_enum {b : Bool} {a : Expr} {c : E} {elts : List Expr} {kk : Nat} {tpos p pos : Pos} (hg : Gl X "enumerate") (hm : X.mg "enumerate" = none) (h : PE X a (tW X.K Y g b c)) (ns : notStar a = true) :
    PI X (.Tuple elts kk tpos) (.Call (.Name "enumerate" p) [a] [] pos) (tI X.K Y g b (.enm c)) := by
  refine ⟨fun pins s σ H R0 I q => (pi_enum1 hg hm (pa_cons h pa_nil (star_cons ns [] X.env)) (star_cons ns [] X.env)).run pins s σ H R0 I ?_⟩
  obtain ⟨env, hp, m, S, ev⟩ := q
  refine ⟨env, hp, m, S, (RR.bind (r := evE reprL Y.Γ c env hp) ev).imp (fun u h1 ev v H1 m1 S1 st1 r1 no => ?_) fun _ _ _ _ x => x⟩
  obtain ⟨d, e3, xs, hx, q⟩ := ev.lift
  obtain ⟨ys, hi, rfl⟩ := Option.map_eq_some_iff.mp e3
  obtain rfl := Option.some.inj hx
  obtain ⟨c', rfl, ok⟩ := items_src r1 hi no
  obtain ⟨vs, hs, hrl⟩ := ok.sq
  exact ⟨c', vs, rfl, hs, fun hz => q _ _ H1 m1 S1 st1 (walk_enum b c' ys) ok (by rw [enumD_len, LIM_eq, ← hrl.length]; exact hz)⟩
theorem i_zip {b : Bool} {a a2 : Expr} {c c2 : E} {elts : List Expr} {kk : Nat} {tpos p pos : Pos} (hg : Gl X "zip") (hm : X.mg "zip" = none) (h : PE X a (tW X.K Y g b c)) (h2 : PE X a2 (tW X.K Y g b c2)) (ns : notStar a = true) (ns2 : notStar a2 = true) :
    PI X (.Tuple elts kk tpos) (.Call (.Name "zip" p) [a, a2] [] pos) (tI X.K Y g b (.zip c c2)) := by
  refine ⟨fun pins s σ H R0 I q => (pi_zip2 hg hm (pa_cons h (pa_cons h2 pa_nil (star_cons ns2 [] X.env)) (star_cons ns [a2] X.env)) (star_cons ns [a2] X.env) (by rw [star_cons ns2]; rfl)).run pins s σ H R0 I ?_⟩
  obtain ⟨env, hp, m, S, ev⟩ := q
  refine ⟨env, hp, m, S, (RR.bind (r := evE reprL Y.Γ c env hp) ev).imp (fun u h1 ev v H1 m1 S1 st1 r1 no1 => ⟨env, h1, m1, S1, (RR.bind (r := evE reprL Y.Γ c2 env h1) ev).imp (fun w h2' ev v2 H2 m2 S2 st2 r2 no2 => ?_) fun _ _ _ _ x => x.step st1⟩) fun _ _ _ _ x => x⟩
  obtain ⟨d, e3, xs, hx, q⟩ := ev.lift
  obtain ⟨ys, hy, e3⟩ := Option.bind_eq_some_iff.mp e3
  obtain ⟨zs, hz, e3⟩ := Option.bind_eq_some_iff.mp e3
  obtain rfl := Option.some.inj e3
  obtain rfl := Option.some.inj hx
  obtain ⟨a', rfl, ok1⟩ := items_src (r1.step S1.at_m st2) hy (no1.move S1 st2)
  obtain ⟨b', rfl, ok2⟩ := items_src r2 hz no2
  obtain ⟨vs, hs, hrl⟩ := ok1.sq
  obtain ⟨ws, ks, _⟩ := ok2.sq
  exact ⟨a', b', vs, ws, rfl, hs, ks, fun hz => q _ _ H2 m2 S2 (st1.trans st2) (walk_zip b a' b' ys zs) ⟨ok1, ok2⟩ (by unfold zipD; rw [List.length_zipWith, LIM_eq]; have := hrl.length; omega)⟩
end
end Ev
end

section
set_option Elab.async false
set_option linter.all false
set_option maxRecDepth 100000
namespace Ev
open PySem L2 PyProof.Rows
variable [TabList]
/-! ### targets -/
section
variable {K : PySem.W.Frag} {g : Gh} {env env' : Env} {hp hp' : Heap} {m m' : List Addr} {σ σ' : L2.St} {H H' : Hp}
def gT (K : PySem.W.Frag) (t : Tg) : TG := fun v σ H Q => ∃ (g : Gh) (env : Env) (hp : Heap) (m : List Addr) (d : D) (env' : Env), StRel K g env hp m σ H ∧ Rep K (Fbd g env σ m) m H v d ∧ setTg t d env = some env' ∧
  ∀ σ', StRel K g env' hp m σ' H → SameOwn env σ env' σ' → (∀ i, i ∉ t.slots → σ'[i]? = σ[i]?) → σ'.length = σ.length → Q σ' H
def gTs (K : PySem.W.Frag) (ts : List Tg) : TGs := fun vs σ H Q => ∃ (g : Gh) (env : Env) (hp : Heap) (m : List Addr) (ds : List D) (env' : Env), StRel K g env hp m σ H ∧ RepL K (Fbd g env σ m) m H vs ds ∧ setTgs ts ds env = some env' ∧
  ∀ σ', StRel K g env' hp m σ' H → SameOwn env σ env' σ' → (∀ i, i ∉ Tg.slotss ts → σ'[i]? = σ[i]?) → σ'.length = σ.length → Q σ' H
variable {X : Cx}
theorem pgWeak {e : Expr} {t t' : TG} (h : PG X e t) (i : ∀ v σ H Q, t' v σ H Q → t v σ H Q) : PG X e t' := ⟨fun pins s σ H v u Q I r q => h.run pins s σ H v u Q I r (i _ _ _ _ q)⟩
theorem pgsWeak {e : List Expr} {t t' : TGs} (h : PGs X e t) (i : ∀ v σ H Q, t' v σ H Q → t v σ H Q) : PGs X e t' := ⟨fun pins s σ H v u Q I r q => h.run pins s σ H v u Q I r (i _ _ _ _ q)⟩
theorem g_name {i : Nat} {x : Str} {pos : Pos} (nd : X.N.Nodup) (hN : X.N[i]? = some x) (hl : Loc X.env.scope x) (hf : X.fn x = true ∨ List.lookup x X.env.scope.names = some NameKind.local) : PG X (.Name x pos) (gT X.K (.name i)) :=
  pgWeak (pg_name nd hN hl hf) fun v σ H Q ⟨g, env, hp, m, d, env', S, r, hs, q⟩ => by
    simp only [setTg] at hs
    split at hs
    · cases hs
    · rename_i hn
      obtain rfl := Option.some.inj hs
      obtain ⟨S', so⟩ := S.putVal hn r
      refine q _ S' so (fun j hj => ?_) (List.length_set ..)
      rw [List.getElem?_set_ne (fun e => hj (by simp [Tg.slots, e]))]
theorem g_nil : PGs X [] (gTs X.K []) := pgsWeak pgs_nil fun vs σ H Q ⟨g, env, hp, m, ds, env', S, r, hs, q⟩ => by
  cases ds with
  | nil =>
    cases r
    obtain rfl := Option.some.inj hs
    exact ⟨rfl, q σ S SameOwn.refl (fun _ _ => rfl) rfl⟩
  | cons _ _ => cases hs
theorem g_cons {e : Expr} {es : List Expr} {t : Tg} {ts : List Tg} (h : PG X e (gT X.K t)) (hs : PGs X es (gTs X.K ts)) (he : assignEach (e :: es) X.env = (false, assign e X.env) :: assignEach es X.env) : PGs X (e :: es) (gTs X.K (t :: ts)) :=
  pgsWeak (pgs_cons h hs (by rw [he]; rfl)) fun vs σ H Q ⟨g, env, hp, m, ds, env', S, r, hs, q⟩ => by
    cases ds with
    | nil => cases hs
    | cons d ds =>
      cases r with
      | cons r rr =>
        obtain ⟨env1, h1, h2⟩ := Option.bind_eq_some_iff.mp (show (setTg t d env).bind (setTgs ts ds) = some env' from hs)
        refine ⟨_, _, rfl, g, env, hp, m, d, env1, S, r, h1, fun σ1 S1 so1 k1 l1 => ⟨g, env1, hp, m, ds, env', S1, ?_, h2, fun σ2 S2 so2 k2 l2 => ?_⟩⟩
        · rw [so1.fbd]
          exact rr
        · refine q σ2 S2 (so1.trans so2) (fun i hi => ?_) (l2.trans l1)
          rw [k2 i fun z => hi (List.mem_append_right _ z), k1 i fun z => hi (List.mem_append_left _ z)]
theorem setTgs_len : ∀ {ts : List Tg} {ds : List D} {env env' : Env}, setTgs ts ds env = some env' → ds.length = ts.length
  | [], [], _, _, _ => rfl
  | [], _ :: _, _, _, h => by cases h
  | _ :: _, [], _, _, h => by cases h
  | t :: ts, d :: ds, env, env', h => by
    obtain ⟨env1, h1, h2⟩ := Option.bind_eq_some_iff.mp (show (setTg t d env).bind (setTgs ts ds) = some env' from h)
    rw [List.length_cons, List.length_cons, setTgs_len h2]
theorem g_tup {es : List Expr} {k : Nat} {pos : Pos} {ts : List Tg} (hc : X.calm = true) (h : PGs X es (gTs X.K ts)) (hl : (assignEach es X.env).length = ts.length) (hst : (assignEach es X.env).findIdx? (·.1) = none) : PG X (.Tuple es k pos) (gT X.K (.tup ts)) :=
  pgWeak (pg_tup hc h hl hst) fun v σ H Q ⟨g, env, hp, m, d, env', S, r, hs, q⟩ => by
    cases d with
    | tup ds =>
      have hs : setTgs ts ds env = some env' := hs
      cases r with
      | tup h1 h2 => exact ⟨_, _, rfl, h1, by rw [h2.length, setTgs_len hs], g, env, hp, m, ds, env', S, h2, hs, q⟩
    | _ => cases hs
/-! ### slots made empty -/
theorem wipe_set (σ : L2.St) (i : Nat) : ∀ is : List Nat, wipe (σ.set i none) is = (wipe σ is).set i none
  | [] => rfl
  | j :: is => by
    show (wipe (σ.set i none) is).set j none = ((wipe σ is).set j none).set i none
    rw [wipe_set σ i is]
    by_cases e : i = j
    · rw [e]
    · exact (List.set_comm _ _ e)
theorem clear_rel : ∀ {is : List Nat} {env env' : Env} {σ : L2.St}, StRel K g env hp m σ H → clear env is = some env' → StRel K g env' hp m (wipe σ is) H ∧ SameOwn env σ env' (wipe σ is)
  | [], env, env', σ, S, h => by
    obtain rfl := Option.some.inj h
    exact ⟨S, SameOwn.refl⟩
  | i :: is, env, env', σ, S, h => by
    simp only [clear] at h
    split at h
    · cases h
    · rename_i hn
      obtain ⟨S1, so1⟩ := S.putNone hn
      obtain ⟨S2, so2⟩ := clear_rel S1 h
      rw [wipe_set] at S2 so2
      exact ⟨S2, so1.trans so2⟩
/-- as the guarded object is laid or changed -/
theorem Rep.upd {a : Addr} {o : HO} (ha : Free H a) {v : V} {d : D} (hn : ∀ b u, H b = some u → Dat u → ¬ Fbd g env σ m b → b ≠ a) (r : Rep K (Fbd g env σ m) m H v d) : Rep K (Fbd (g.guard a) env σ m) m (upd H a o) v d := by
  refine r.move (fun b vs h => ?_) (fun b u h hd n => ?_) fun _ _ h => h
  · rcases h with (h | ⟨o', h⟩) | h
    · exact .inl (.inl (by rw [upd_ne (ha.ne h fun z => z)]; exact h))
    · exact .inl (.inr ⟨o', by rw [upd_ne (ha.ne h fun z => z)]; exact h⟩)
    · exact .inr h
  · have ne := hn b u h hd n
    exact ⟨by rw [upd_ne ne]; exact h, fun z => (guard_fbd.mp z).elim n ne⟩
theorem RepL.upd {a : Addr} {o : HO} (ha : Free H a) (hn : ∀ b u, H b = some u → Dat u → ¬ Fbd g env σ m b → b ≠ a) : ∀ {vs : List V} {ds : List D}, RepL K (Fbd g env σ m) m H vs ds → RepL K (Fbd (g.guard a) env σ m) m (upd H a o) vs ds
  | _, _, .nil => .nil
  | _, _, .cons h r => .cons (h.upd ha hn) (RepL.upd ha hn r)
theorem guard_guard {a : Addr} : (g.guard a).guard a = g.guard a := by
  unfold Gh.guard
  simp only [or_assoc, or_self]
theorem StRel.guard {a : Addr} {o : HO} (S : StRel K g env hp m σ H) (ha : Free H a) (hn : ∀ b u, H b = some u → Dat u → ¬ Fbd g env σ m b → b ≠ a) (hm : a ∉ m) (ho : ¬ isOwn env σ a) (hw : ∀ b vs, Bor K m H b vs → b = a → SqL K (fun _ => none) b vs) (h0 : g.H0 a = none ∨ a ∈ g.m0) :
    StRel K (g.guard a) env hp m σ (upd H a o) := by
  refine ⟨S.len, fun i x hx => ?_, S.apart, S.cells, fun k xs h => ?_, S.nd, fun b h => ?_, fun b o' h n nt => ?_, S.more, tabs_upd S.tabs ha, fun b h => has_upd (S.has b h)⟩
  · refine (S.slots i x hx).move rfl rfl rfl (fun _ _ r => r.upd ha hn) (fun _ _ r => r.upd ha hn) (fun d b u e h1 h2 _ _ h5 h6 => ?_) (fun b vs _ h3 => ?_) fun b u e nd _ => by rw [upd_ne (ha.ne e nd)]; exact e
    · subst e
      have ne : b ≠ a := fun e => ho (e ▸ ⟨i, d, hx, h1⟩)
      exact ⟨by rw [upd_ne ne]; exact h2, h5, fun z => z.elim h6 ne⟩
    · by_cases e : b = a
      · exact .inr (hw b vs h3 e)
      · rcases h3 with ⟨h | ⟨o', h⟩, n⟩ | h
        · exact .inl ⟨.inl (by rw [upd_ne e]; exact h), n⟩
        · exact .inl ⟨.inr ⟨o', by rw [upd_ne e]; exact h⟩, n⟩
        · exact .inr h
  · obtain ⟨b, u, h1, h2, h3⟩ := S.cell k xs h
    have ne : b ≠ a := fun e => hm (e ▸ List.mem_of_getElem? h1)
    exact ⟨b, u, h1, by rw [upd_ne ne]; exact h2, h3.imp fun _ _ r => r.upd ha hn⟩
  · by_cases e : b = a
    · rw [e, upd_same]
      simp
    · rw [upd_ne e]
      exact S.pr b (h.elim id fun z => absurd z e)
  · have ne : b ≠ a := fun e => by
      subst e
      rcases h0 with z | z
      · have h : g.H0 b = some o' := h
        rw [z] at h
        cases h
      · exact n z
    rw [upd_ne ne]
    exact S.frame b o' h n nt
end
end Ev
end

section
set_option Elab.async false
set_option linter.all false
set_option maxRecDepth 100000
namespace Ev
open PySem L2 PyProof.Rows
variable [TabList]
section
variable {K : PySem.W.Frag} {g : Gh} {env env' : Env} {hp hp' : Heap} {m m' : List Addr} {σ σ' : L2.St} {H H' : Hp}
theorem wipe_get (σ : L2.St) : ∀ (vs : List Nat) (i : Nat), (wipe σ vs)[i]? = if i ∈ vs ∧ i < σ.length then some none else σ[i]?
  | [], i => by simp [wipe]
  | v :: vs, i => by
    show ((wipe σ vs).set v none)[i]? = _
    rw [List.getElem?_set, wipe_length, wipe_get σ vs i]
    by_cases e : v = i
    · subst e
      by_cases hl : v < σ.length
      · simp [hl]
      · simp [hl]
    · rw [if_neg e]
      have : (i ∈ v :: vs) ↔ i ∈ vs := by
        rw [List.mem_cons]
        exact ⟨fun z => z.elim (fun z => absurd z.symm e) id, .inr⟩
      simp only [this]
theorem wipe_same {vs : List Nat} (hl : σ'.length = σ.length) (h : ∀ i, i ∉ vs → σ'[i]? = (wipe σ vs)[i]?) : wipe σ' vs = wipe σ vs := by
  apply List.ext_getElem?
  intro i
  rw [wipe_get σ' vs i, wipe_get σ vs i, hl]
  by_cases c : i ∈ vs ∧ i < σ.length
  · rw [if_pos c, if_pos c]
  · rw [if_neg c, if_neg c]
    by_cases hi : i ∈ vs
    · have : ¬ i < σ.length := fun z => c ⟨hi, z⟩
      rw [List.getElem?_eq_none (by omega), List.getElem?_eq_none (by omega)]
    · rw [h i hi, wipe_get, if_neg fun z => hi z.1]
theorem Rep.less {Fb Fb' : Addr → Prop} (hf : ∀ a, Fb' a → Fb a) {v : V} {d : D} (r : Rep K Fb m H v d) : Rep K Fb' m H v d :=
  r.move (fun _ _ h => h) (fun _ _ h _ n => ⟨h, fun z => n (hf _ z)⟩) fun _ _ h => h
theorem RepL.less {Fb Fb' : Addr → Prop} (hf : ∀ a, Fb' a → Fb a) {v : List V} {d : List D} (r : RepL K Fb m H v d) : RepL K Fb' m H v d :=
  r.move (fun _ _ h => h) (fun _ _ h _ n => ⟨h, fun z => n (hf _ z)⟩) fun _ _ h => h
theorem StRel.unguard {L : Addr} (S : StRel K (g.guard L) env hp m σ H) : StRel K g env hp m σ H := by
  have hf : ∀ a, Fbd g env σ m a → Fbd (g.guard L) env σ m a := fun a z => guard_fbd.mpr (.inl z)
  refine ⟨S.len, fun i x hx => ?_, S.apart, S.cells, fun k xs h => ?_, S.nd, fun a h => S.pr a (.inl h), S.frame, S.more, S.tabs, S.has⟩
  · exact (S.slots i x hx).move rfl rfl rfl (fun _ _ r => r.less hf) (fun _ _ r => r.less hf) (fun _ _ _ _ _ h _ _ n p => ⟨h, n, fun z => p (.inl z)⟩) (fun _ _ _ b => b) fun _ _ e _ _ => e
  · obtain ⟨a, o, h1, h2, h3⟩ := S.cell k xs h
    exact ⟨a, o, h1, h2, h3.imp fun _ _ r => r.less hf⟩
/-- back in the state around, the guarded list grown -/
theorem StRel.backG {L : Addr} {xs : List V} (S : StRel K g env hp m σ H) (hL : H L = none) (S' : StRel K (g.guard L) env' hp' m' σ' H') (so : SameOwn env σ env' σ') (st : Step m H m' (upd H' L (.lst xs))) (hL' : ∃ xs, H' L = some (.lst xs)) (hm : L ∉ m') : StRel K (g.guard L) env hp' m' σ (upd H' L (.lst xs)) := by
  have fb : Fbd (g.guard L) env' σ' m' = Fbd (g.guard L) env σ m' := so.fbd
  have fr : Free H' L := let ⟨_, h⟩ := hL'; .inr ⟨_, h, trivial⟩
  have ne : ∀ {a : Addr} {o : HO}, H a = some o → a ≠ L := fun h e => by
    rw [e, hL] at h
    cases h
  refine ⟨S.len, fun i x hx => ?_, S.apart, S'.cells, fun k ys h => ?_, S'.nd, fun a h => ?_, fun a o h n nt => ?_, S'.more, tabs_upd S'.tabs fr, fun a h => has_upd (S'.has a h)⟩
  · exact (S.slots i x hx).move rfl rfl rfl (fun _ _ r => r.gstep S st hL) (fun _ _ r => r.gstep S st hL) (fun _ a o _ _ h hd _ n p => ⟨st.keep a _ h n hd.nt, st.off h n, fun z => z.elim p (ne h)⟩) (fun _ _ _ b => b.step st) fun a o e nd nt => st.fix S.at_m e nd nt
  · obtain ⟨a, o, h1, h2, h3⟩ := S'.cell k ys h
    have na : a ≠ L := fun e => hm (e ▸ List.mem_of_getElem? h1)
    refine ⟨a, o, h1, by rw [upd_ne na]; exact h2, h3.imp fun _ _ r => ?_⟩
    have := r.upd (o := HO.lst xs) fr fun b u hb _ nb e => nb (guard_fbd.mpr (.inr e))
    rw [guard_guard, fb] at this
    exact this
  · by_cases e : a = L
    · rw [e, upd_same]
      simp
    · rw [upd_ne e]
      exact S'.pr a h
  · have h' : H a = some o := S.frame a o h n nt
    rw [upd_ne (ne h')]
    exact S'.frame a o h n nt
theorem StRel.startG {L : Addr} {o : HO} (S : StRel K g env hp m σ H) (hL : H L = none) : StRel K (g.guard L) env hp m σ (upd H L o) := by
  refine S.guard (.inl hL) (fun b u h _ _ e => ?_) (fun z => ?_) (fun z => ?_) (fun b vs h e => ?_) ?_
  · rw [e, hL] at h
    cases h
  · obtain ⟨vs, h, _⟩ := S.at_m _ z
    rw [hL] at h
    cases h
  · obtain ⟨vs, h, _⟩ := S.at_own z
    rw [hL] at h
    cases h
  · subst e
    rcases h with ⟨h | ⟨o, h⟩, _⟩ | h
    · rw [hL] at h
      cases h
    · rw [hL] at h
      cases h
    · exact h
  · cases q : g.H0 L with
    | none => exact .inl rfl
    | some o' =>
      exact absurd hL (S.has L (by rw [q]; simp))
end
/-! ### tests of a clause; readings that carry their own ghost -/
section
variable (K : PySem.W.Frag) (Y : Yd)
def tEg (c : E) : TE := fun σ H Q => ∃ g : Gh, g.y = Y.y ∧ tE K Y g c σ H Q
def tTg (c : E) : TT := fun σ H Q => ∃ g : Gh, g.y = Y.y ∧ tT K Y g c σ H Q
def tIg (b : Bool) (c : E) : TI := fun σ H Q => ∃ g : Gh, g.y = Y.y ∧ tI K Y g b c σ H Q
def tCg (cs : List E) : TT := fun σ H Q => ∃ g : Gh, g.y = Y.y ∧ ∃ env hp m, StRel K g env hp m σ H ∧ RR (evC reprL Y.Γ cs env hp) (fun b hp' =>
  ∀ H' m', StRel K g env hp' m' σ H' → Step m H m' H' → Q b H') (XP K Y g env σ m H)
variable {K Y} {X : Cx}
theorem eg {e : Expr} {c : E} (h : ∀ g : Gh, g.y = Y.y → PE X e (tE X.K Y g c)) : PE X e (tEg X.K Y c) := ⟨fun pins s σ H Q I ⟨g, hg, q⟩ => (h g hg).run pins s σ H Q I q⟩
theorem tg {e : Expr} {c : E} (h : ∀ g : Gh, g.y = Y.y → PT X e (tT X.K Y g c)) : PT X e (tTg X.K Y c) := ⟨fun pins s σ H Q I ⟨g, hg, q⟩ => (h g hg).run pins s σ H Q I q⟩
theorem ig {b : Bool} {tg e : Expr} {c : E} (h : ∀ g : Gh, g.y = Y.y → PI X tg e (tI X.K Y g b c)) : PI X tg e (tIg X.K Y b c) := ⟨fun pins s σ H Q I ⟨g, hg, q⟩ => (h g hg).run pins s σ H Q I q⟩
theorem ptsWeak {e : List Expr} {t t' : TT} (h : PTs X e t) (i : ∀ σ H Q, t' σ H Q → t σ H Q) : PTs X e t' := ⟨fun pins s σ H Q I q => h.run pins s σ H Q I (i _ _ _ q)⟩
theorem c_nil : PTs X [] (tCg X.K Y []) := ptsWeak pts_nil fun σ H Q ⟨g, hg, env, hp, m, S, ev⟩ =>
  (show ∀ H' m', StRel X.K g env hp m' σ H' → Step m H m' H' → Q true H' from ev) H m S Step.refl
theorem c_one {e : Expr} {c : E} (h : ∀ g : Gh, g.y = Y.y → PT X e (tT X.K Y g c)) : PTs X [e] (tCg X.K Y [c]) := ptsWeak (pts_one (tg h)) fun σ H Q ⟨g, hg, env, hp, m, S, ev⟩ => by
  have ev := RR.bind (r := evE reprL Y.Γ c env hp) ev
  refine ⟨g, hg, env, hp, m, S, ev.imp (fun d h1 ev => ?_) fun _ _ _ _ x => x⟩
  cases d with
  | bl z =>
    refine ⟨z, rfl, ?_⟩
    cases z with
    | true => exact ev
    | false => exact ev
  | _ => exact ev.elim
end
end Ev
end

section
set_option Elab.async false
set_option linter.all false
set_option maxRecDepth 100000
namespace Ev
open PySem L2 PyProof.Rows
variable [TabList]
section
variable {Γ : Gm}
/-- a turn of [elt for tg in .. if ..] -/
def lcTurn (Γ : Gm) (elt : E) (cnd : List E) (tgs : List Nat) (tg : Tg) (env : Env) (x : D) (h : Heap) : R (List D) := match (clear env tgs).bind (setTg tg x) with
  | none => none
  | some env => R.bind (evC reprL Γ cnd env h) fun b h => if b then R.bind (evE reprL Γ elt env h) fun y h => rok [y] h else rok [] h
theorem evE_lc {elt it : E} {tg : Tg} {cnd : List E} {env : Env} {hp hp' : Heap} {d : D} (ev : evE reprL Γ (.lc elt tg it cnd) env hp = some (.ok d hp')) :
    ∃ ys, d = .lst ys := by
  obtain ⟨s, h1, e1, ev⟩ := bind_some (show R.bind (evE reprL Γ it env hp) _ = _ from ev)
  cases hw : walk? s with
  | none =>
    rw [hw] at ev
    cases ev
  | some xs =>
    rw [hw] at ev
    obtain ⟨ys, h2, e2, ev⟩ := bind_some ev
    obtain ⟨rfl, rfl⟩ := rok_inj ev
    exact ⟨ys, rfl⟩
theorem RR.lc {elt it : E} {tg : Tg} {cnd : List E} {env : Env} {hp : Heap} {P : D → Heap → Prop} {Xr : Nat → List Str → List D → Heap → Prop} (ev : RR (evE reprL Γ (.lc elt tg it cnd) env hp) P Xr) :
    RR (evE reprL Γ it env hp) (fun s h1 => ∃ xs ys h2, walk? s = some xs ∧ compLoop (lcTurn Γ elt cnd tg.slots tg env) xs h1 = some (.ok ys h2) ∧ P (.lst ys) h2) Xr :=
  (RR.bind (r := evE reprL Γ it env hp) ev).imp (fun s h1 ev => by
    cases hw : walk? s with
    | none =>
      rw [hw] at ev
      exact ev.elim
    | some xs =>
      rw [hw] at ev
      obtain ⟨ys, h2, e, p⟩ := (RR.bind (r := calmly (compLoop (lcTurn Γ elt cnd tg.slots tg env) xs h1)) ev).calm
      exact ⟨xs, ys, h2, rfl, e, p⟩) fun _ _ _ _ x => x
theorem compLoop_cons {α : Type} {f : D → Heap → R (List α)} {x : D} {xs : List D} {h h' : Heap} {ys : List α} (e : compLoop f (x :: xs) h = some (.ok ys h')) : ∃ o h1 rest, f x h = some (.ok o h1) ∧ compLoop f xs h1 = some (.ok rest h') ∧ ys = o ++ rest := by
  obtain ⟨o, h1, e1, e⟩ := bind_some (show R.bind (f x h) _ = _ from e)
  obtain ⟨rest, h2, e2, e⟩ := bind_some e
  obtain ⟨rfl, rfl⟩ := rok_inj e
  exact ⟨o, h1, rest, e1, e2, rfl⟩
theorem lcTurn_ok {elt : E} {cnd : List E} {tg : Tg} {vs : List Nat} {env : Env} {x : D} {h h' : Heap} {o : List D} (e : lcTurn Γ elt cnd vs tg env x h = some (.ok o h')) :
    ∃ env1 env2 b h1, clear env vs = some env1 ∧ setTg tg x env1 = some env2 ∧ evC reprL Γ cnd env2 h = some (.ok b h1) ∧ (b = true → ∃ y, evE reprL Γ elt env2 h1 = some (.ok y h') ∧ o = [y]) ∧ (b = false → o = [] ∧ h1 = h') := by
  unfold lcTurn at e
  split at e
  · cases e
  · rename_i env2 he
    obtain ⟨env1, h1, h2⟩ := Option.bind_eq_some_iff.mp he
    obtain ⟨b, h3, e1, e⟩ := bind_some e
    refine ⟨env1, env2, b, h3, h1, h2, e1, fun hb => ?_, fun hb => ?_⟩
    · subst hb
      obtain ⟨y, h4, e2, e⟩ := bind_some (show R.bind (evE reprL Γ elt env2 h3) _ = _ from e)
      obtain ⟨rfl, rfl⟩ := rok_inj e
      exact ⟨y, e2, rfl⟩
    · subst hb
      obtain ⟨rfl, rfl⟩ := rok_inj (show some (Out.ok [] h3) = some (.ok o h') from e)
      exact ⟨rfl, rfl⟩
theorem upd_off {H : Hp} {m m' : List Addr} {L : Addr} {o o' : HO} {H' : Hp} (st : Step m (upd H L o) m' H') (hL : H L = none) (hm : L ∉ m) (ho : ∃ xs, o = .lst xs := by exact ⟨_, rfl⟩) : Step m H m' (upd H' L o') ∧ Step m H m' H' ∧ H' L = some o ∧ L ∉ m' := by
  have h0 : (upd H L o) L = some o := upd_same ..
  have ne : ∀ {a : Addr} {q : HO}, H a = some q → a ≠ L := fun h e => by
    rw [e, hL] at h
    cases h
  have off := st.off h0 hm
  have more : ∃ r, m' = m ++ r ∧ ∀ a ∈ r, H a = none := by
    obtain ⟨r, e, f⟩ := st.more
    refine ⟨r, e, fun a ha => ?_⟩
    have na : a ≠ L := fun z => off (by rw [e, ← z]; exact List.mem_append_right _ ha)
    have := f a ha
    rw [upd_ne na] at this
    exact this
  have kp : ∀ a q, H a = some q → a ∉ m → NT q → H' a = some q := fun a q h n nt => st.keep a q (by rw [upd_ne (ne h)]; exact h) n nt
  obtain ⟨xs0, rfl⟩ := ho
  have tb : ∀ _ : Unit, LamX.Tabs TabList.T H → LamX.Tabs TabList.T H' := fun T t => st.tabs T (tabs_upd t (.inl hL))
  have hk : H' L = some (.lst xs0) := st.keep L _ h0 hm
  have th : ∀ a q, H a = some q → ∃ q', H' a = some q' := fun a q h => st.there a q (by rw [upd_ne (ne h)]; exact h)
  refine ⟨⟨more, fun a q h n nt => ?_, fun a q h => ?_, fun T t => tabs_upd (tb T t) (.inr ⟨_, hk, trivial⟩)⟩, ⟨more, kp, th, tb⟩, hk, off⟩
  · rw [upd_ne (ne h)]
    exact kp a q h n nt
  · obtain ⟨q', h'⟩ := th a q h
    exact ⟨q', by rw [upd_ne (ne h)]; exact h'⟩
end
section
variable {X : Cx} {Y : Yd} {g : Gh}
/-- no error may leave -/
def Yd.calm (Y : Yd) : Yd := { Y with W := fun _ _ _ _ => False }
/-- a list that nobody has yet -/
def tF (K : PySem.W.Frag) (Y : Yd) (g : Gh) (c : E) : TE := fun σ H Q => ∃ env hp m, StRel K g env hp m σ H ∧ RR (evE reprL Y.Γ c env hp) (fun d hp' => ownable d = true ∧
  ∀ a o H' m', H a = none → StRel K (g.guard a) env hp' m' σ H' → Step m H m' H' → a ∉ m' → H' a = some o → Of K (Fbd (g.guard a) env σ m') m' H' o d → Q (.ref a) H') (XP K Y g env σ m H)
theorem f_of {c : E} (hl : ∀ env hp d hp', evE reprL Y.Γ c env hp = some (.ok d hp') → ownable d = true) {σ : L2.St} {H : Hp} {Q : VK} (q : tE X.K Y g c σ H Q) : tF X.K Y g c σ H Q := by
  obtain ⟨env, hp, m, S, ev⟩ := q
  refine ⟨env, hp, m, S, ev.val fun d hp' e q => ⟨hl _ _ _ _ e, fun a o H' m' ha S' st hm hv r => ?_⟩⟩
  have hf : ∀ b, Fbd g env σ m' b → Fbd (g.guard a) env σ m' b := fun b z => guard_fbd.mpr (.inl z)
  refine q _ _ m' S'.unguard st ((r.imp fun _ _ r => r.less hf).rep hv fun z => ?_)
  rcases z with z | z | z
  · exact S.fb a (.inl z) ha
  · exact S.fb a (.inr (.inl z)) ha
  · exact hm z
theorem pe_of_f {e : Expr} {c : E} (h : PE X e (tF X.K Y g c)) (hl : ∀ env hp d hp', evE reprL Y.Γ c env hp = some (.ok d hp') → ownable d = true) : PE X e (tE X.K Y g c) := peWeak h fun _ _ _ q => f_of hl q
/-- what a list comprehension answers, said in the layer's words -/
theorem lc_reads {elt it : E} {tg : Tg} {cnd : List E} {σ : L2.St} {H : Hp} {Q : VK} (hg : g.y = Y.y) (q : tF X.K Y g (.lc elt tg it cnd) σ H Q) :
    tLc (tI X.K Y g false it) (gT X.K tg) (tCg X.K Y.calm cnd) (tEg X.K Y.calm elt) tg.slots σ H Q := by
  obtain ⟨env, hp, m, S, ev⟩ := q
  refine ⟨env, hp, m, S, ev.lc.imp (fun s h1 ev => ?_) fun _ _ _ _ x => x⟩
  obtain ⟨xs, ys, hp', hw, e2, _, q⟩ := ev
  refine ⟨xs, hw, fun J ok H1 m1 S1 st1 wk ok1 hlen L hL => ?_⟩
  have hm1 : L ∉ m1 := fun z => by
    obtain ⟨vs, h, _⟩ := S1.at_m _ z
    rw [hL] at h
    cases h
  refine ⟨fun i μ H2 => μ = xs.length - i ∧ i ≤ xs.length ∧ ∃ h2 m2 acc vacc rest, StRel X.K (g.guard L) env h2 m2 σ H2 ∧ Step m1 H1 m2 H2 ∧ L ∉ m2 ∧ H2 L = some (.lst vacc) ∧ RepL X.K (Fbd (g.guard L) env σ m2) m2 H2 vacc acc ∧
    compLoop (lcTurn Y.Γ elt cnd tg.slots tg env) (xs.drop i) h2 = some (.ok rest hp') ∧ ys = acc ++ rest ∧ acc.length ≤ i, ⟨xs.length, ?_⟩, ?_⟩
  · refine ⟨by simp, Nat.zero_le _, h1, m1, [], [], ys, S1.startG hL, ?_, hm1, upd_same .., .nil, e2, rfl, Nat.le_refl _⟩
    exact Step.ext (Evl.Ex.new hL)
  · rintro i μ H2 ⟨rfl, hi, h2, m2, acc, vacc, rest, S2, st2, hm2, hL2, racc, e3, ha, hacc⟩
    have ok2 : ok (g.guard L) env σ m2 H2 := wk.grd g env h1 σ m1 H1 L m2 H2 S1 hL st2 ok1
    by_cases hlt : i < xs.length
    · refine .inr ?_
      obtain ⟨go, yl⟩ := wk.go (g.guard L) env h2 σ m2 H2 i S2 ok2 hlt
      refine ⟨go, fun H' => ?_, ?_⟩
      · exact i + 1 ≤ xs.length ∧ ∃ h2 m2 acc vacc rest, StRel X.K (g.guard L) env h2 m2 σ H' ∧ Step m1 H1 m2 H' ∧ L ∉ m2 ∧ H' L = some (.lst vacc) ∧ RepL X.K (Fbd (g.guard L) env σ m2) m2 H' vacc acc ∧
          compLoop (lcTurn Y.Γ elt cnd tg.slots tg env) (xs.drop (i + 1)) h2 = some (.ok rest hp') ∧ ys = acc ++ rest ∧ acc.length ≤ i + 1
      · refine ⟨fun H' h => ⟨xs.length - (i + 1), by omega, rfl, h⟩, fun x H3 y => ?_⟩
        obtain ⟨ex3, d, hd, rx⟩ := yl x H3 y
        have hdrop : xs.drop i = d :: xs.drop (i + 1) := by
          obtain ⟨hl, rfl⟩ := List.getElem?_eq_some_iff.mp hd
          exact List.drop_eq_getElem_cons hl
        rw [hdrop] at e3
        obtain ⟨o, h3, rest', e4, e5, rfl⟩ := compLoop_cons e3
        obtain ⟨env1, env2, b, h4, c1, c2, c3, kt, kf⟩ := lcTurn_ok e4
        have S3 : StRel X.K (g.guard L) env h2 m2 σ H3 := S2.ext ex3
        obtain ⟨S4, so4⟩ := clear_rel S3 c1
        refine ⟨g.guard L, env1, h2, m2, d, env2, S4, by rw [so4.fbd]; exact rx, c2, fun σ5 S5 so5 k5 l5 => ⟨wipe_same (by rw [l5, wipe_length]) k5, ?_⟩⟩
        refine ⟨g.guard L, hg, env2, h2, m2, S5, .of c3 fun H6 m6 S6 st6 => ?_⟩
        have so : SameOwn env σ env2 σ5 := so4.trans so5
        have stA : Step m1 H1 m2 H3 := st2.trans (Step.ext ex3)
        have hL3 : H3 L = some (.lst vacc) := ex3 _ _ hL2
        have S6' : StRel X.K (g.guard L) env h4 m6 σ H6 := S3.back S6 so st6
        have racc3 : RepL X.K (Fbd (g.guard L) env σ m2) m2 H3 vacc acc := racc.ext ex3
        have at3 : Cellar m2 H3 := S3.at_m
        cases b with
        | false =>
          refine iteF ?_
          obtain ⟨rfl, rfl⟩ := kf rfl
          exact ⟨hlt, h4, m6, acc, vacc, rest', S6', stA.trans st6, st6.off hL3 hm2, st6.keep _ _ hL3 hm2, racc3.step at3 st6, e5, ha, by omega⟩
        | true =>
          refine iteT ?_
          obtain ⟨y, e6, rfl⟩ := kt rfl
          refine ⟨g.guard L, hg, env2, h4, m6, S6, .of e6 fun v H7 m7 S7 st7 r7 => ?_⟩
          have stB : Step m2 H3 m7 H7 := st6.trans st7
          have hL7 : H7 L = some (.lst vacc) := stB.keep _ _ hL3 hm2
          have hm7 : L ∉ m7 := stB.off hL3 hm2
          have racc7 : RepL X.K (Fbd (g.guard L) env σ m7) m7 H7 vacc acc := racc3.step at3 stB
          refine ⟨vacc, hL7, by rw [← LIM_eq, racc7.length]; omega, hlt, h3, m7, acc ++ [y], vacc ++ [v], rest', ?_⟩
          have stC : Step m1 H1 m7 (upd H7 L (.lst (vacc ++ [v]))) := by
            have := stA.trans stB
            refine ⟨this.more, fun a q h n nt => ?_, fun a q h => ?_, fun T t => tabs_upd (this.tabs T t) (.inr ⟨_, hL7, trivial⟩)⟩
            · rw [upd_ne fun e => by rw [e, hL] at h; cases h]
              exact this.keep a q h n nt
            · rw [upd_ne fun e => by rw [e, hL] at h; cases h]
              exact this.there a q h
          have hgu : ∀ {vs : List V} {ds : List D}, RepL X.K (Fbd (g.guard L) env σ m7) m7 H7 vs ds → RepL X.K (Fbd (g.guard L) env σ m7) m7 (upd H7 L (.lst (vacc ++ [v]))) vs ds := fun {vs ds} r => by
            have := r.upd (o := HO.lst (vacc ++ [v])) (.inr ⟨_, hL7, trivial⟩) fun b u hb _ nb e => nb (guard_fbd.mpr (.inr e))
            rw [guard_guard] at this
            exact this
          have r7' : RepL X.K (Fbd (g.guard L) env σ m7) m7 H7 [v] [y] := by
            rw [so.fbd] at r7
            exact .cons r7 .nil
          refine ⟨S1.backG hL S7 so stC ⟨_, hL7⟩ hm7, stC, hm7, upd_same .., (hgu racc7).append (hgu r7'), e5, by rw [ha]; simp, by simp; omega⟩
    · have hi' : i = xs.length := by omega
      subst hi'
      refine .inl ⟨wk.stop _ _ _ _ _ ok2, ?_⟩
      rw [List.drop_length] at e3
      obtain ⟨rfl, rfl⟩ := rok_inj (show some (Out.ok [] h2) = some (.ok rest hp') from e3)
      rw [List.append_nil] at ha
      subst ha
      exact q L _ _ m2 (st1.fresh hL) S2 (st1.trans st2) hm2 hL2 ⟨_, rfl, racc⟩
theorem f_lc {elt tg iter : Expr} {ifs : List Expr} {scope : Scope} {own : List (Str × Nat)} {pos : Pos} {c it : E} {cnd : List E} {t : Tg} (hgy : g.y = Y.y) (hc : X.calm = true) (hN : X.N.Nodup) (hi : PI X tg iter (tI X.K Y g false it)) (ok : BlkOk X.N X.env.scope scope own) (ho : own.map (·.2) = t.slots)
    (hg : ∀ (s : Shared) (H : Hp) (C : Addr) (cl : List (Str × Addr)) (fp : List Addr), PG (X.blk s H scope (compEnvC scope cl C X.env) fp) tg (gT X.K t))
    (ht : ∀ (s : Shared) (H : Hp) (C : Addr) (cl : List (Str × Addr)) (fp : List Addr), PTs (X.blk s H scope (compEnvC scope cl C X.env) fp) ifs (tCg X.K Y.calm cnd))
    (he : ∀ (s : Shared) (H : Hp) (C : Addr) (cl : List (Str × Addr)) (fp : List Addr), PE (X.blk s H scope (compEnvC scope cl C X.env) fp) elt (tEg X.K Y.calm c)) (hs : ∀ x, foldedSetIterable iter X.env x = pure x) :
    PE X (.ListComp elt [⟨tg, iter, ifs, 0⟩] scope pos) (tF X.K Y g (.lc c t it cnd)) :=
  peWeak (pe_lc hc hN hi ok hg ht he hs) fun σ H Q q => by
    rw [ho]
    exact lc_reads hgy q
theorem lc_lst {Γ : Gm} {c it : E} {cnd : List E} {t : Tg} : ∀ env hp d hp', evE reprL Γ (.lc c t it cnd) env hp = some (.ok d hp') → ownable d = true := fun env hp d hp' ev => by
  obtain ⟨ys, rfl⟩ := evE_lc ev
  rfl
theorem f_lst {es : List Expr} {cs : List E} {pos : Pos} (h : PA X es (tEs X.K Y g cs)) (hl : cs.length ≤ sizeLine) : PE X (.List es pos) (tF X.K Y g (.lst cs)) :=
  peWeak (pe_lst h) fun σ H Q ⟨env, hp, m, S, ev⟩ => by
    have ev := RR.bind (r := evEs reprL Y.Γ cs env hp) ev
    refine ⟨env, hp, m, S, ev.val fun xs h1 e1 ⟨_, q⟩ vs H1 m1 S1 st1 r1 => ⟨?_, fun p np => ?_⟩⟩
    · rw [r1.length, evEs_len e1]
      exact hl
    · refine q p _ _ m1 (st1.fresh np) (S1.startG np) (st1.trans (Step.ext (Evl.Ex.new np))) (fun z => ?_) (upd_same ..) ⟨_, rfl, r1.upd (.inl np) fun b u hb _ _ e => ?_⟩
      · obtain ⟨ws, hw, _⟩ := S1.at_m _ z
        rw [np] at hw
        cases hw
      · rw [e, np] at hb
        cases hb
theorem lst_lst {Γ : Gm} {cs : List E} : ∀ env hp d hp', evE reprL Γ (.lst cs) env hp = some (.ok d hp') → ownable d = true := fun env hp d hp' ev => by
  obtain ⟨xs, h1, e1, ev⟩ := bind_some (show R.bind (evEs reprL Γ cs env hp) _ = _ from ev)
  obtain ⟨rfl, rfl⟩ := rok_inj ev
  rfl
end
end Ev
end

section
set_option Elab.async false
set_option linter.all false
set_option maxRecDepth 100000
namespace Ev
open PySem L2 PyProof.Rows
variable [TabList]
/-! ### lists that get an owner -/
def Gh.guards (g : Gh) (L : List Addr) : Gh := { g with Pr := fun b => g.Pr b ∨ b ∈ L }
section
variable {K : PySem.W.Frag} {g : Gh} {env env' : Env} {hp hp' : Heap} {m m' : List Addr} {σ σ' : L2.St} {H H' : Hp} {L : List Addr}
theorem guards_nil : g.guards [] = g := by
  unfold Gh.guards
  simp
theorem guards_cons {a : Addr} : (g.guard a).guards L = g.guards (a :: L) := by
  unfold Gh.guards Gh.guard
  simp only [List.mem_cons, or_assoc]
theorem guards_fbd {b : Addr} : Fbd (g.guards L) env σ m b ↔ Fbd g env σ m b ∨ b ∈ L := by
  unfold Fbd Gh.guards
  constructor
  · rintro ((h | h) | h | h)
    · exact .inl (.inl h)
    · exact .inr h
    · exact .inl (.inr (.inl h))
    · exact .inl (.inr (.inr h))
  · rintro ((h | h | h) | h)
    · exact .inl (.inl h)
    · exact .inr (.inl h)
    · exact .inr (.inr h)
    · exact .inl (.inr h)
theorem guards_step (s : Step m H m' H') (hL : ∀ a ∈ L, H a = none) {a : Addr} {o : HO} (h : H a = some o) (n : ¬ Fbd g env σ m a) (nt : NT o := by intro ps z; cases z) : H' a = some o ∧ ¬ Fbd (g.guards L) env σ m' a :=
  ⟨s.keep a _ h (fun z => n (.inr (.inr z))) nt, fun z => (guards_fbd.mp z).elim (fbd_step s h n) fun e => by
    rw [hL a e] at h
    cases h⟩
theorem Rep.gsteps (S : StRel K g env hp m σ H) (s : Step m H m' H') (hL : ∀ a ∈ L, H a = none) {v : V} {d : D} (r : Rep K (Fbd g env σ m) m H v d) : Rep K (Fbd (g.guards L) env σ m') m' H' v d :=
  r.move (fun _ _ h => sqt_step S.at_m s h) (fun a o h hd n => guards_step s hL h n hd.nt) fun _ _ h => s.get h
theorem RepL.gsteps (S : StRel K g env hp m σ H) (s : Step m H m' H') (hL : ∀ a ∈ L, H a = none) {v : List V} {d : List D} (r : RepL K (Fbd g env σ m) m H v d) : RepL K (Fbd (g.guards L) env σ m') m' H' v d :=
  r.move (fun _ _ h => sqt_step S.at_m s h) (fun a o h hd n => guards_step s hL h n hd.nt) fun _ _ h => s.get h
/-- values, some of them lists that get an owner -/
inductive RepP (K : PySem.W.Frag) (Fb : Addr → Prop) (m : List Addr) (H : Hp) : List Bool → List V → List D → List Addr → Prop
  | nil : RepP K Fb m H [] [] [] []
  | val {v d fs vs ds L} : Rep K Fb m H v d → RepP K Fb m H fs vs ds L → RepP K Fb m H (false :: fs) (v :: vs) (d :: ds) L
  | own {a o d fs vs ds L} : H a = some o → Of K Fb m H o d → a ∉ L → a ∉ m → RepP K Fb m H fs vs ds L → RepP K Fb m H (true :: fs) (.ref a :: vs) (d :: ds) (a :: L)
theorem RepP.less {Fb Fb' : Addr → Prop} (hf : ∀ a, Fb' a → Fb a) {fs : List Bool} {vs : List V} {ds : List D} (r : RepP K Fb m H fs vs ds L) : RepP K Fb' m H fs vs ds L := by
  induction r with
  | nil => exact .nil
  | val h _ ih => exact .val (h.less hf) ih
  | own h1 h2 h3 h4 _ ih => exact .own h1 (h2.imp fun _ _ r => r.less hf) h3 h4 ih
theorem own_sub {i : Nat} {w : D} {a : Addr} {b : Addr} (h : Fbd (g.guards L) (env.set i (.own w)) (σ.set i (some (.ref a))) m b) : Fbd (g.guards (a :: L)) env σ m b := by
  rcases h with (h | h) | ⟨j, d, h1, h2⟩ | h
  · exact .inl (.inl h)
  · exact .inl (.inr (List.mem_cons_of_mem _ h))
  · by_cases e : i = j
    · subst e
      rw [List.getElem?_set] at h2
      simp only [if_true] at h2
      split at h2
      · cases h2
        exact .inl (.inr List.mem_cons_self)
      · cases h2
    · rw [List.getElem?_set_ne e] at h1 h2
      exact .inr (.inl ⟨j, d, h1, h2⟩)
  · exact .inr (.inr h)
/-- a slot becomes the owner -/
theorem StRel.own {i : Nat} {a : Addr} {o : HO} {w : D} (S : StRel K (g.guards (a :: L)) env hp m σ H) (hi : i < env.length) (ha : H a = some o) (r : Of K (Fbd (g.guards (a :: L)) env σ m) m H o w)
    (h0 : g.H0 a = none) (hm : a ∉ m) (hpr : ¬ g.Pr a) (hL : a ∉ L) : StRel K (g.guards L) (env.set i (.own w)) hp m (σ.set i (some (.ref a))) H := by
  have sub : ∀ b, Fbd (g.guards L) (env.set i (.own w)) (σ.set i (some (.ref a))) m b → Fbd (g.guards (a :: L)) env σ m b := fun b h => own_sub h
  have hs : i < σ.length := by
    rw [← S.len]
    exact hi
  have npr : ¬ (g.guards L).Pr a := fun z => z.elim hpr hL
  refine ⟨by rw [List.length_set, List.length_set]; exact S.len, fun j y hj => ?_, fun j l d e b h1 h2 h3 h4 => ?_, S.cells, fun k xs h => ?_, S.nd, fun b h => ?_, S.frame, S.more, S.tabs, S.has⟩
  · by_cases e : i = j
    · subst e
      rw [List.getElem?_set_self hi] at hj
      cases hj
      exact ⟨a, o, List.getElem?_set_self hs, ha, r.imp fun _ _ r => r.less sub, h0, hm, npr⟩
    · rw [List.getElem?_set_ne e] at hj
      exact (S.slots j y hj).move (List.getElem?_set_ne e) rfl rfl (fun _ _ r => r.less sub) (fun _ _ r => r.less sub) (fun _ b u _ _ h _ _ n p => ⟨h, n, fun z => p (z.elim .inl fun z => .inr (List.mem_cons_of_mem _ z))⟩) (fun _ _ _ b => b) fun _ _ e _ _ => e
  · have oth : ∀ {n : Nat} {f : D}, i ≠ n → (env.set i (.own w))[n]? = some (.own f) → (σ.set i (some (.ref a)))[n]? = some (some (.ref b)) → env[n]? = some (.own f) ∧ σ[n]? = some (some (.ref b)) ∧ b ≠ a := fun {n f} e k1 k2 => by
      rw [List.getElem?_set_ne e] at k1 k2
      obtain ⟨c, _, z1, _, _, _, _, z2⟩ := S.slots n _ k1
      rw [k2] at z1
      cases z1
      exact ⟨k1, k2, fun z => z2 (.inr (by rw [z]; exact List.mem_cons_self))⟩
    by_cases e1 : i = j
    · by_cases e2 : i = l
      · omega
      · subst e1
        rw [List.getElem?_set_self hs] at h3
        cases h3
        exact absurd rfl (oth e2 h2 h4).2.2
    · by_cases e2 : i = l
      · subst e2
        rw [List.getElem?_set_self hs] at h4
        cases h4
        exact absurd rfl (oth e1 h1 h3).2.2
      · obtain ⟨k1, k2, _⟩ := oth e1 h1 h3
        obtain ⟨k3, k4, _⟩ := oth e2 h2 h4
        exact S.apart j l d e b k1 k3 k2 k4
  · obtain ⟨b, u, h1, h2, h3⟩ := S.cell k xs h
    exact ⟨b, u, h1, h2, h3.imp fun _ _ r => r.less sub⟩
  · exact S.pr b (h.elim .inl fun z => .inr (List.mem_cons_of_mem _ z))
end
def setV : List Nat → List V → L2.St → L2.St
  | i :: is, v :: vs, σ => setV is vs (σ.set i (some v))
  | _, _, σ => σ
section
variable {K : PySem.W.Frag} {g : Gh} {env env' : Env} {hp hp' : Heap} {m m' : List Addr} {σ σ' : L2.St} {H H' : Hp} {L : List Addr}
/-- the own lists: those there, or of L -/
def OwnIn (env : Env) (σ : L2.St) (L : List Addr) (env' : Env) (σ' : L2.St) : Prop := ∀ a, isOwn env' σ' a → isOwn env σ a ∨ a ∈ L
theorem par_rel : ∀ {ts : List (Bool × Nat)} {vs : List V} {ds : List D} {L : List Addr} {env env' : Env} {σ : L2.St}, RepP K (Fbd (g.guards L) env σ m) m H (ts.map (·.1)) vs ds L → StRel K (g.guards L) env hp m σ H → setPar ts ds env = some env' →
    (∀ a ∈ L, g.H0 a = none ∧ ¬ g.Pr a) → StRel K g env' hp m (setV (ts.map (·.2)) vs σ) H ∧ OwnIn env σ L env' (setV (ts.map (·.2)) vs σ)
  | [], vs, ds, L, env, env', σ, r, S, h, hL => by
    cases r
    obtain rfl := Option.some.inj h
    rw [guards_nil] at S
    exact ⟨S, fun a z => .inl z⟩
  | (false, i) :: ts, vs, ds, L, env, env', σ, r, S, h, hL => by
    cases r with
    | val r rr =>
      simp only [setPar] at h
      split at h
      · cases h
      · rename_i hn
        obtain ⟨S', so⟩ := S.putVal hn r
        rw [← so.fbd] at rr
        obtain ⟨k1, k2⟩ := par_rel rr S' h hL
        exact ⟨k1, fun a z => (k2 a z).imp (so a).mp id⟩
  | (true, i) :: ts, vs, ds, L, env, env', σ, r, S, h, hL => by
    cases r with
    | own h1 h2 h3 h4 rr =>
      simp only [setPar] at h
      split at h
      · rename_i hi
        rw [Bool.and_eq_true, decide_eq_true_eq] at hi
        have hi := hi.1
        obtain ⟨z1, z2⟩ := hL _ List.mem_cons_self
        have S' := S.own hi h1 h2 z1 h4 z2 h3
        obtain ⟨k1, k2⟩ := par_rel (rr.less fun b z => own_sub z) S' h fun a ha => hL a (List.mem_cons_of_mem _ ha)
        refine ⟨k1, fun a z => ?_⟩
        rcases k2 a z with ⟨j, d, q1, q2⟩ | q
        · by_cases e : i = j
          · subst e
            rw [List.getElem?_set] at q2
            simp only [if_true] at q2
            split at q2
            · cases q2
              exact .inr List.mem_cons_self
            · cases q2
          · rw [List.getElem?_set_ne e] at q1 q2
            exact .inl ⟨j, d, q1, q2⟩
        · exact .inr (List.mem_cons_of_mem _ q)
      · cases h
theorem setPar_len : ∀ {ts : List (Bool × Nat)} {ds : List D} {env env' : Env}, setPar ts ds env = some env' → ds.length = ts.length
  | [], [], _, _, _ => rfl
  | [], _ :: _, _, _, h => by cases h
  | _ :: _, [], _, _, h => by
    rename_i x ts _ _
    obtain ⟨b, i⟩ := x
    cases b <;> cases h
  | (false, i) :: ts, d :: ds, env, env', h => by
    simp only [setPar] at h
    split at h
    · cases h
    · rw [List.length_cons, List.length_cons, setPar_len h]
  | (true, i) :: ts, d :: ds, env, env', h => by
    simp only [setPar] at h
    split at h
    · rw [List.length_cons, List.length_cons, setPar_len h]
    · cases h
end
/-! ### the values -/
section
variable (K : PySem.W.Frag) (Y : Yd)
def tP (fs : List Bool) (cs : List E) : TA := fun σ H Q => ∃ g : Gh, g.y = Y.y ∧ ∃ env hp m, StRel K g env hp m σ H ∧ RR (evEs reprL Y.Γ cs env hp) (fun ds hp' => (∀ i : Nat, fs[i]? = some true → ∃ d, ds[i]? = some d ∧ ownable d = true) ∧
  ∀ vs L H' m', StRel K (g.guards L) env hp' m' σ H' → Step m H m' H' → RepP K (Fbd (g.guards L) env σ m') m' H' fs vs ds L → (∀ a ∈ L, H a = none) → Q vs H') (XP K Y g env σ m H)
variable {K Y} {X : Cx}
theorem p_nil : PA X [] (tP X.K Y [] []) := paWeak pa_nil fun σ H Q ⟨g, hg, env, hp, m, S, ev⟩ =>
  (show _ ∧ ∀ vs L H' m', StRel X.K (g.guards L) env hp m' σ H' → Step m H m' H' → RepP X.K (Fbd (g.guards L) env σ m') m' H' [] vs [] L → (∀ a ∈ L, H a = none) → Q vs H' from ev).2 _ [] _ m (by rw [guards_nil]; exact S) Step.refl .nil fun a ha => by cases ha
theorem p_val {e : Expr} {es : List Expr} {c : E} {cs : List E} {fs : List Bool} (h : ∀ g : Gh, g.y = Y.y → PE X e (tE X.K Y g c)) (hs : PA X es (tP X.K Y fs cs)) (ns : notStar e = true) : PA X (e :: es) (tP X.K Y (false :: fs) (c :: cs)) :=
  paWeak (pa_cons (eg h) hs (star_cons ns es X.env)) fun σ H Q ⟨g, hg, env, hp, m, S, ev⟩ => by
    have ev := RR.bind (r := evE reprL Y.Γ c env hp) ev
    refine ⟨g, hg, env, hp, m, S, ev.imp (fun x h1 ev v1 H1 m1 S1 st1 r1 => ⟨g, hg, env, h1, m1, S1, (RR.bind (r := evEs reprL Y.Γ cs env h1) ev).imp (fun xs h2 ev => ⟨fun i hi => ev.1 (i + 1) hi, fun vs L H2 m2 S2 st2 r2 hL => ?_⟩) fun _ _ _ _ x => x.step st1⟩) fun _ _ _ _ x => x⟩
    exact ev.2 _ L H2 m2 S2 (st1.trans st2) (.val (r1.gsteps S1 st2 hL) r2) fun a ha => st1.fresh (hL a ha)
theorem p_own {e : Expr} {es : List Expr} {c : E} {cs : List E} {fs : List Bool} (ho : ∀ env hp d hp', evE reprL Y.Γ c env hp = some (.ok d hp') → ownable d = true) (h : ∀ g : Gh, g.y = Y.y → PE X e (tF X.K Y g c)) (hs : PA X es (tP X.K Y fs cs)) (ns : notStar e = true) : PA X (e :: es) (tP X.K Y (true :: fs) (c :: cs)) :=
  paWeak (pa_cons (te := fun σ H Q => ∃ g : Gh, g.y = Y.y ∧ tF X.K Y g c σ H Q) ⟨fun pins s σ H Q I ⟨g, hg, q⟩ => (h g hg).run pins s σ H Q I q⟩ hs (star_cons ns es X.env)) fun σ H Q ⟨g, hg, env, hp, m, S, ev⟩ => by
    have ev := RR.bind (r := evE reprL Y.Γ c env hp) ev
    refine ⟨g, hg, env, hp, m, S, ev.val fun x h1 e1 ev => ⟨ho _ _ _ _ e1, fun a o H1 m1 ha S1 st1 hm hv r1 => ⟨g.guard a, hg, env, h1, m1, S1, (RR.bind (r := evEs reprL Y.Γ cs env h1) ev).imp (fun xs h2 ev => ⟨fun i hi => ev.1 (i + 1) hi, fun vs L H2 m2 S2 st2 r2 hL => ?_⟩) fun c ns fs h' x => ?_⟩⟩⟩
    · rw [guards_cons] at S2 r2
      refine ev.2 _ (a :: L) H2 m2 S2 (st1.trans st2) (.own (st2.keep _ _ hv hm r1.dat.nt) ?_ (fun z => ?_) (st2.off hv hm) r2) fun b hb => ?_
      · refine r1.imp fun _ _ r => ?_
        have := r.gsteps S1 st2 hL
        rw [guards_cons] at this
        exact this
      · rw [hL a z] at hv
        cases hv
      · obtain rfl | hb := List.mem_cons.mp hb
        · exact ha
        · exact st1.fresh (hL b hb)
    · exact fun H' m' d vs S' st e l r => x H' m' d vs S'.unguard (st1.trans st) e l (r.less fun b z => guard_fbd.mpr (.inl z))
end
end Ev
end

section
set_option Elab.async false
set_option linter.all false
set_option maxRecDepth 100000
namespace Ev
open PySem L2 PyProof.Rows
variable [TabList]
/-! ### statements -/
section
variable (K : PySem.W.Frag) (Y : Yd)
/-- what is wanted behind, by the evaluator's answer -/
def After (g : Gh) (B : Ends) (env : Env) (σ : L2.St) (m : List Addr) (H : Hp) (fl : Flow) (hp' : Heap) : Prop := match fl with
  | .nx env' => ∀ σ' H' m', StRel K g env' hp' m' σ' H' → SStep env σ m H env' σ' m' H' → B.nx σ' H'
  | .brk env' => ∀ σ' H' m', StRel K g env' hp' m' σ' H' → SStep env σ m H env' σ' m' H' → B.bk σ' H'
  | .cont env' => ∀ σ' H' m', StRel K g env' hp' m' σ' H' → SStep env σ m H env' σ' m' H' → B.ct σ' H'
  | .ret d => ∀ v env' σ' H' m', StRel K g env' hp' m' σ' H' → SStep env σ m H env' σ' m' H' → Rep K (fun a => g.Pr a ∨ a ∈ m') m' H' v d → B.rt v H'
  | .exc env' c ns fs => ∀ σ' H' m' d vs, StRel K g env' hp' m' σ' H' → SStep env σ m H env' σ' m' H' → H' d = some (.xd (ns.zip vs)) → vs.length = ns.length → RepL K (Fbd g env' σ' m') m' H' vs fs → Y.W (.ref (TabList.cls c)) (some d) σ' H'
def tS (c : S) : TS := fun B σ H => ∃ g env hp m, g.y = Y.y ∧ StRel K g env hp m σ H ∧ ∃ fl hp', evS reprL Y.Γ c env hp = some (.ok fl hp') ∧ After K Y g B env σ m H fl hp'
def tSs (cs : List S) : TS := fun B σ H => ∃ g env hp m, g.y = Y.y ∧ StRel K g env hp m σ H ∧ ∃ fl hp', evSs reprL Y.Γ cs env hp = some (.ok fl hp') ∧ After K Y g B env σ m H fl hp'
def tFg (c : E) : TE := fun σ H Q => ∃ g : Gh, g.y = Y.y ∧ tF K Y g c σ H Q
variable {K Y} {X : Cx}
theorem After.step {g : Gh} {B : Ends} {env env1 : Env} {σ σ1 : L2.St} {m m1 : List Addr} {H H1 : Hp} {fl : Flow} {hp' : Heap} (s : SStep env σ m H env1 σ1 m1 H1) (h : After K Y g B env σ m H fl hp') : After K Y g B env1 σ1 m1 H1 fl hp' := by
  cases fl with
  | nx e => exact fun σ' H' m' S' st => h σ' H' m' S' (s.trans st)
  | brk e => exact fun σ' H' m' S' st => h σ' H' m' S' (s.trans st)
  | cont e => exact fun σ' H' m' S' st => h σ' H' m' S' (s.trans st)
  | ret d => exact fun v e σ' H' m' S' st r => h v e σ' H' m' S' (s.trans st) r
  | exc e c ns fs => exact fun σ' H' m' d vs S' st => h σ' H' m' d vs S' (s.trans st)
/-- an expression of a statement, then what the statement makes of it -/
theorem bindS_RR {α : Type} {r : R α} {f : α → Heap → R Flow} {g : Gh} {B : Ends} {env : Env} {σ : L2.St} {m : List Addr} {H : Hp} {fl : Flow} {hp' : Heap} (ev : R.bindS r env f = some (.ok fl hp')) (q : After K Y g B env σ m H fl hp') :
    RR r (fun a h => f a h = some (.ok fl hp')) (XP K Y g env σ m H) := by
  cases r with
  | none => cases ev
  | some o => cases o with
    | ok a h => exact ev
    | err c ns fs h =>
      obtain ⟨rfl, rfl⟩ := rok_inj (show some (Out.ok (Flow.exc env c ns fs) h) = _ from ev)
      exact fun H' m' d vs S st e l r => q σ H' m' d vs S (SStep.of st SameOwn.refl) e l r
theorem fg {e : Expr} {c : E} (h : ∀ g : Gh, g.y = Y.y → PE X e (tF X.K Y g c)) : PE X e (tFg X.K Y c) := ⟨fun pins s σ H Q I ⟨g, hg, q⟩ => (h g hg).run pins s σ H Q I q⟩
theorem psWeak {st : Stmt} {t t' : TS} (h : PS X st t) (i : ∀ B σ H, t' B σ H → t B σ H) : PS X st t' := ⟨fun pins s σ H B I q => h.run pins s σ H B I (i _ _ _ q)⟩
theorem pssWeak {st : List Stmt} {t t' : TS} (h : PSs X st t) (i : ∀ B σ H, t' B σ H → t B σ H) : PSs X st t' := ⟨fun pins s σ H B I q => h.run pins s σ H B I (i _ _ _ q)⟩
/-! blocks -/
theorem ss_nil : PSs X [] (tSs X.K Y []) := pssWeak pss_nil fun B σ H ⟨g, env, hp, m, hg, S, fl, hp', ev, q⟩ => by
  obtain ⟨rfl, rfl⟩ := rok_inj (show some (Out.ok (Flow.nx env) hp) = some (.ok fl hp') from ev)
  exact q _ _ m S SStep.refl
theorem ss_cons {st : Stmt} {rest : List Stmt} {c : S} {cs : List S} (h : PS X st (tS X.K Y c)) (hs : PSs X rest (tSs X.K Y cs)) : PSs X (st :: rest) (tSs X.K Y (c :: cs)) :=
  pssWeak (pss_cons h hs) fun B σ H ⟨g, env, hp, m, hg, S, fl, hp', ev, q⟩ => by
    obtain ⟨fl1, h1, e1, ev⟩ := bind_some (show R.bind (evS reprL Y.Γ c env hp) _ = _ from ev)
    refine ⟨g, env, hp, m, hg, S, fl1, h1, e1, ?_⟩
    cases fl1 with
    | nx env1 => exact fun σ1 H1 m1 S1 st1 => ⟨g, env1, h1, m1, hg, S1, fl, hp', ev, q.step st1⟩
    | brk env1 =>
      obtain ⟨rfl, rfl⟩ := rok_inj (show some (Out.ok (Flow.brk env1) h1) = some (.ok fl hp') from ev)
      exact q
    | cont env1 =>
      obtain ⟨rfl, rfl⟩ := rok_inj (show some (Out.ok (Flow.cont env1) h1) = some (.ok fl hp') from ev)
      exact q
    | ret d =>
      obtain ⟨rfl, rfl⟩ := rok_inj (show some (Out.ok (Flow.ret d) h1) = some (.ok fl hp') from ev)
      exact q
    | exc e c ns fs =>
      obtain ⟨rfl, rfl⟩ := rok_inj (show some (Out.ok (Flow.exc e c ns fs) h1) = some (.ok fl hp') from ev)
      exact q
/-- a ghost statement: no Python text -/
theorem ss_frz {rest : List Stmt} {i : Nat} {cs : List S} (hs : PSs X rest (tSs X.K Y cs)) : PSs X rest (tSs X.K Y (.frz i :: cs)) := pssWeak hs fun B σ H ⟨g, env, hp, m, hg, S, fl, hp', ev, q⟩ => by
  obtain ⟨fl1, h1, e1, ev2⟩ := bind_some (show R.bind (evS reprL Y.Γ (.frz i) env hp) _ = _ from ev)
  have hw : ∃ d, env[i]? = some (.own d) ∧ fl1 = .nx (env.set i (.val d)) ∧ h1 = hp := by
    simp only [evS] at e1
    split at e1
    · rename_i d hd
      obtain ⟨z1, z2⟩ := rok_inj e1
      exact ⟨d, hd, z1.symm, z2.symm⟩
    · cases e1
  obtain ⟨w, hd, rfl, rfl⟩ := hw
  obtain ⟨a, o, k1, k3, k4, k5, k6, k7⟩ := S.slots i _ hd
  have hi : i < env.length := (List.getElem?_eq_some_iff.mp hd).1
  have own : ∀ b, isOwn (env.set i (.val w)) σ b ↔ isOwn env σ b ∧ b ≠ a := fun b => by
    constructor
    · rintro ⟨j, e, h1, h2⟩
      by_cases hj : i = j
      · subst hj
        rw [List.getElem?_set_self hi] at h1
        cases h1
      · rw [List.getElem?_set_ne hj] at h1
        refine ⟨⟨j, e, h1, h2⟩, fun z => ?_⟩
        subst z
        exact hj (S.apart i j _ _ b hd h1 k1 h2)
    · rintro ⟨⟨j, e, h1, h2⟩, ne⟩
      refine ⟨j, e, ?_, h2⟩
      have hj : i ≠ j := fun z => by
        subst z
        rw [k1] at h2
        cases h2
        exact ne rfl
      rw [List.getElem?_set_ne hj]
      exact h1
  have sub : ∀ b, Fbd g (env.set i (.val w)) σ m b → Fbd g env σ m b := fun b z => z.imp id fun z => z.imp (fun z => ((own b).mp z).1) id
  have S' : StRel X.K g (env.set i (.val w)) h1 m σ H := by
    refine ⟨by rw [List.length_set]; exact S.len, fun j y hj => ?_, fun j l d' e b h1 h2 h3 h4 => ?_, S.cells, fun k xs h => ?_, S.nd, S.pr, S.frame, S.more, S.tabs, S.has⟩
    · by_cases e : i = j
      · subst e
        rw [List.getElem?_set_self hi] at hj
        cases hj
        refine ⟨.ref a, k1, (k4.imp fun _ _ r => r.less sub).rep k3 fun z => ?_⟩
        rcases z with z | z | z
        · exact k7 z
        · exact ((own a).mp z).2 rfl
        · exact k6 z
      · rw [List.getElem?_set_ne e] at hj
        exact (S.slots j y hj).move rfl rfl rfl (fun _ _ r => r.less sub) (fun _ _ r => r.less sub) (fun _ _ _ _ _ h _ _ n p => ⟨h, n, p⟩) (fun _ _ _ b => b) fun _ _ e _ _ => e
    · have back : ∀ {n : Nat} {f : D}, (env.set i (.val w))[n]? = some (.own f) → env[n]? = some (.own f) := fun {n f} k => by
        by_cases e : i = n
        · subst e
          rw [List.getElem?_set_self hi] at k
          cases k
        · rw [List.getElem?_set_ne e] at k
          exact k
      exact S.apart j l d' e b (back h1) (back h2) h3 h4
    · obtain ⟨b, u, h1, h2, h3⟩ := S.cell k xs h
      exact ⟨b, u, h1, h2, h3.imp fun _ _ r => r.less sub⟩
  have st : SStep env σ m H (env.set i (.val w)) σ m H := ⟨⟨[], by simp, by simp⟩, fun b o h _ n _ => ⟨h, fun z => n ((own b).mp z).1⟩, fun b o h => ⟨o, h⟩, fun _ t => t⟩
  exact ⟨g, _, h1, m, hg, S', fl, hp', ev2, q.step st⟩
/-! assignments -/
theorem StRel.new {K : PySem.W.Frag} {g : Gh} {env : Env} {hp : Heap} {m : List Addr} {σ : L2.St} {H : Hp} (S : StRel K g env hp m σ H) {b : Addr} (ha : H b = none) : g.H0 b = none ∧ ¬ g.Pr b := by
  refine ⟨?_, fun z => S.pr b z ha⟩
  cases h0 : g.H0 b with
  | none => rfl
  | some o => exact absurd ha (S.has b (by rw [h0]; simp))
theorem asg_reads {t : Tg} {c : E} {B : Ends} {σ : L2.St} {H : Hp} (q : tS X.K Y (.asg t c) B σ H) : tEg X.K Y c σ H fun v H1 => gT X.K t v σ H1 B.nx := by
  obtain ⟨g, env, hp, m, hg, S, fl, hp', ev, q⟩ := q
  refine ⟨g, hg, env, hp, m, S, (bindS_RR (r := evE reprL Y.Γ c env hp) ev q).imp (fun d h1 ev v H1 m1 S1 st1 r1 => ?_) fun _ _ _ _ x => x⟩
  split at ev
  · rename_i env1 hs
    obtain ⟨rfl, rfl⟩ := rok_inj ev
    exact ⟨g, env, _, m1, d, env1, S1, r1, hs, fun σ' S' so _ _ => q σ' H1 m1 S' ((SStep.of st1 SameOwn.refl).trans (SStep.of Step.refl so))⟩
  · cases ev
theorem s_asg {tg e : Expr} {pos : Pos} {t : Tg} {c : E} (h : ∀ g : Gh, g.y = Y.y → PE X e (tE X.K Y g c)) (hg : PG X tg (gT X.K t)) (hs : swapsWithSole [tg] e pos.line X.env = pure false) (hw : swappedStores [tg] e X.env = pure none)
    (h1 : (assignEach [tg] X.env).map (·.2) = [assign tg X.env]) : PS X (.Assign [tg] e pos) (tS X.K Y (.asg t c)) := psWeak (ps_asg (eg h) hg hs hw h1) fun _ _ _ q => asg_reads q
/-- one name -/
theorem set_reads {i : Nat} {c : E} {B : Ends} {σ : L2.St} {H : Hp} (q : tS X.K Y (.asg (.name i) c) B σ H) : tEg X.K Y c σ H fun v H1 => B.nx (σ.set i (some v)) H1 := by
  obtain ⟨g, hg, env, hp, m, S, ev⟩ := asg_reads q
  refine ⟨g, hg, env, hp, m, S, ev.imp (fun d hp' q v H1 m1 S1 st1 r1 => ?_) fun _ _ _ _ x => x⟩
  obtain ⟨g', env', h', m', d', env1, S', r', hs, q⟩ := q v H1 m1 S1 st1 r1
  simp only [setTg] at hs
  split at hs
  · cases hs
  · rename_i hn
    obtain rfl := Option.some.inj hs
    obtain ⟨S2, so⟩ := S'.putVal hn r'
    refine q _ S2 so (fun j hj => ?_) (List.length_set ..)
    rw [List.getElem?_set_ne (fun e => hj (by simp [Tg.slots, e]))]
theorem s_set {i : Nat} {x : Str} {e : Expr} {pos pos' : Pos} {c : E} (hN : X.N.Nodup) (hi : X.N[i]? = some x) (hx : Loc X.env.scope x) (h : ∀ g : Gh, g.y = Y.y → PE X e (tE X.K Y g c)) (hs : swapsWith e (some (.Name x pos')) pos.line X.env = pure false) (hf : X.fn x = true ∨ X.env.scope.names.lookup x = some .local) :
    PS X (.Assign [.Name x pos'] e pos) (tS X.K Y (.asg (.name i) c)) := psWeak (ps_set hN hi hx (eg h) hs hf) fun _ _ _ q => set_reads q
theorem own_reads {i : Nat} {c : E} {B : Ends} {σ : L2.St} {H : Hp} (q : tS X.K Y (.par [(true, i)] [c]) B σ H) : tFg X.K Y c σ H fun v H1 => B.nx (σ.set i (some v)) H1 := by
  obtain ⟨g, env, hp, m, hg, S, fl, hp', ev, q⟩ := q
  have ev := bindS_RR (r := evEs reprL Y.Γ [c] env hp) ev q
  refine ⟨g, hg, env, hp, m, S, (RR.bind (r := evE reprL Y.Γ c env hp) ev).imp (fun d h1 ev => ?_) fun _ _ _ _ x => x⟩
  have ev : (match setPar [(true, i)] [d] env with
    | some env => rok (Flow.nx env) h1
    | none => none) = some (.ok fl hp') := ev
  split at ev
  · rename_i env1 hs
    obtain ⟨rfl, rfl⟩ := rok_inj ev
    have hw : ownable d = true := by
      simp only [setPar] at hs
      split at hs
      · rename_i hi
        rw [Bool.and_eq_true] at hi
        exact hi.2
      · cases hs
    refine ⟨hw, fun a o H1 m1 ha S1 st1 hm hv r1 => ?_⟩
    have hL : ∀ b ∈ [a], g.H0 b = none ∧ ¬ g.Pr b := fun b hb => by
      obtain rfl := List.mem_singleton.mp hb
      exact S.new ha
    have S1' : StRel X.K (g.guards [a]) env h1 m1 σ H1 := by
      rw [← guards_cons, guards_nil]
      exact S1
    have r1' : RepP X.K (Fbd (g.guards [a]) env σ m1) m1 H1 [true] [.ref a] [d] [a] := by
      rw [← guards_cons, guards_nil]
      exact .own hv r1 (by simp) hm .nil
    obtain ⟨k1, k2⟩ := par_rel (ts := [(true, i)]) r1' S1' hs hL
    refine q _ H1 m1 k1 ⟨st1.more, fun b o h n no nt => ⟨st1.keep b o h n nt, fun z => ?_⟩, st1.there, st1.tabs⟩
    rcases k2 b z with z | z
    · exact no z
    · obtain rfl := List.mem_singleton.mp z
      rw [ha] at h
      cases h
  · cases ev
theorem s_own {i : Nat} {x : Str} {e : Expr} {pos pos' : Pos} {c : E} (hN : X.N.Nodup) (hi : X.N[i]? = some x) (hx : Loc X.env.scope x) (h : ∀ g : Gh, g.y = Y.y → PE X e (tF X.K Y g c)) (hs : swapsWith e (some (.Name x pos')) pos.line X.env = pure false) (hf : X.fn x = true ∨ X.env.scope.names.lookup x = some .local) :
    PS X (.Assign [.Name x pos'] e pos) (tS X.K Y (.par [(true, i)] [c])) := psWeak (ps_set hN hi hx (fg h) hs hf) fun _ _ _ q => own_reads q
end
end Ev
end

section
set_option Elab.async false
set_option linter.all false
set_option maxRecDepth 100000
namespace Ev
open PySem L2 PyProof.Rows
variable [TabList]
section
variable {Y : Yd} {X : Cx}
/-! several at once -/
theorem RepP.length {K : PySem.W.Frag} {Fb : Addr → Prop} {m : List Addr} {H : Hp} {fs : List Bool} {vs : List V} {ds : List D} {L : List Addr} (r : RepP K Fb m H fs vs ds L) : vs.length = ds.length := by
  induction r with
  | nil => rfl
  | val _ _ ih => simp only [List.length_cons, ih]
  | own _ _ _ _ _ ih => simp only [List.length_cons, ih]
theorem RepP.ext {K : PySem.W.Frag} {Fb : Addr → Prop} {m : List Addr} {H H2 : Hp} (ex : Ext H H2) {fs : List Bool} {vs : List V} {ds : List D} {L : List Addr} (r : RepP K Fb m H fs vs ds L) : RepP K Fb m H2 fs vs ds L := by
  induction r with
  | nil => exact .nil
  | val h _ ih => exact .val (h.ext ex) ih
  | own h1 h2 h3 h4 _ ih => exact .own (ex _ _ h1) (h2.imp fun _ _ r => r.ext ex) h3 h4 ih
theorem setPar_flags : ∀ {ts : List (Bool × Nat)} {ds : List D} {env env' : Env}, setPar ts ds env = some env' → ∀ i : Nat, (ts.map (·.1))[i]? = some true → ∃ d, ds[i]? = some d ∧ ownable d = true
  | [], _, _, _, _, i, hi => by simp at hi
  | (b, j) :: ts, [], _, _, h, _, _ => by cases b <;> cases h
  | (false, j) :: ts, d :: ds, env, env', h, i, hi => by
    simp only [setPar] at h
    split at h
    · cases h
    · cases i with
      | zero => cases hi
      | succ i => exact setPar_flags h i hi
  | (true, j) :: ts, d :: ds, env, env', h, i, hi => by
    simp only [setPar] at h
    split at h
    · rename_i hd
      rw [Bool.and_eq_true] at hd
      cases i with
      | zero => exact ⟨d, rfl, hd.2⟩
      | succ i => exact setPar_flags h i hi
    · cases h
theorem par_reads {ts : List (Bool × Nat)} {cs : List E} {B : Ends} {σ : L2.St} {H : Hp} (q : tS X.K Y (.par ts cs) B σ H) : tP X.K Y (ts.map (·.1)) cs σ H fun vs H1 => vs.length = ts.length ∧ ∀ H2, Ext H1 H2 → B.nx (setV (ts.map (·.2)) vs σ) H2 := by
  obtain ⟨g, env, hp, m, hg, S, fl, hp', ev, q⟩ := q
  refine ⟨g, hg, env, hp, m, S, (bindS_RR (r := evEs reprL Y.Γ cs env hp) ev q).imp (fun ds h1 ev => ?_) fun _ _ _ _ x => x⟩
  split at ev
  · rename_i env1 hs
    obtain ⟨rfl, rfl⟩ := rok_inj ev
    refine ⟨setPar_flags hs, fun vs L H1 m1 S1 st1 r1 hL => ⟨?_, fun H2 ex => ?_⟩⟩
    · rw [r1.length, setPar_len hs]
    · have S2 := S1.ext ex
      have r2 := r1.ext ex
      obtain ⟨k1, k2⟩ := par_rel r2 S2 hs fun a ha => S.new (hL a ha)
      have st2 := st1.trans (Step.ext ex)
      refine q _ H2 m1 k1 ⟨st2.more, fun b o h n no nt => ⟨st2.keep b o h n nt, fun z => ?_⟩, st2.there, st2.tabs⟩
      rcases k2 b z with z | z
      · exact no z
      · rw [hL b z] at h
        cases h
  · cases ev
theorem s_par2 {i j : Nat} {x y : Str} {a b : Expr} {px py pt pos : Pos} {kt k2 : Nat} {pt2 : Pos} {f1 f2 : Bool} {cs : List E} (hc : X.calm = true) (hN : X.N.Nodup) (hi : X.N[i]? = some x) (hj : X.N[j]? = some y) (hij : i ≠ j)
    (hx : X.env.scope.names.lookup x = some .local) (hy : X.env.scope.names.lookup y = some .local) (ha : PA X [a, b] (tP X.K Y [f1, f2] cs))
    (hw : swappedStores [.Tuple [.Name x px, .Name y py] kt pt] (.Tuple [a, b] k2 pt2) X.env = pure (some [x, y])) :
    PS X (.Assign [.Tuple [.Name x px, .Name y py] kt pt] (.Tuple [a, b] k2 pt2) pos) (tS X.K Y (.par [(f1, i), (f2, j)] cs)) :=
  psWeak (ps_par hc hN hi hj hij hx hy ha hw) fun B σ H q => by
    obtain ⟨g, hg, env, hp, m, S, ev⟩ := par_reads q
    refine ⟨g, hg, env, hp, m, S, ev.imp (fun ds hp' ⟨hf, q⟩ => ⟨hf, fun vs L H1 m1 S1 st1 r1 hL => ?_⟩) fun _ _ _ _ x => x⟩
    obtain ⟨hl, q⟩ := q vs L H1 m1 S1 st1 r1 hL
    match vs, hl with
    | [v, w], _ => exact ⟨v, w, rfl, q H1 (Evl.Ex.refl _)⟩
theorem s_par3 {i j l : Nat} {x y z : Str} {a b c : Expr} {px py pz pt pos : Pos} {kt k2 : Nat} {pt2 : Pos} {f1 f2 f3 : Bool} {cs : List E} (hc : X.calm = true) (hN : X.N.Nodup) (hi : X.N[i]? = some x) (hj : X.N[j]? = some y) (hl : X.N[l]? = some z) (hij : i ≠ j) (hil : i ≠ l) (hjl : j ≠ l)
    (hx : X.env.scope.names.lookup x = some .local) (hy : X.env.scope.names.lookup y = some .local) (hz : X.env.scope.names.lookup z = some .local) (ha : PA X [a, b, c] (tP X.K Y [f1, f2, f3] cs))
    (hw : swappedStores [.Tuple [.Name x px, .Name y py, .Name z pz] kt pt] (.Tuple [a, b, c] k2 pt2) X.env = pure (some [x, y, z])) :
    PS X (.Assign [.Tuple [.Name x px, .Name y py, .Name z pz] kt pt] (.Tuple [a, b, c] k2 pt2) pos) (tS X.K Y (.par [(f1, i), (f2, j), (f3, l)] cs)) :=
  psWeak (ps_par3 hc hN hi hj hl hij hil hjl hx hy hz ha hw) fun B σ H q => by
    obtain ⟨g, hg, env, hp, m, S, ev⟩ := par_reads q
    refine ⟨g, hg, env, hp, m, S, ev.imp (fun ds hp' ⟨hf, q⟩ => ⟨hf, fun vs L H1 m1 S1 st1 r1 hL => ?_⟩) fun _ _ _ _ x => x⟩
    obtain ⟨hl, q⟩ := q vs L H1 m1 S1 st1 r1 hL
    match vs, hl with
    | [u, v, w], _ => exact ⟨u, v, w, rfl, q H1 (Evl.Ex.refl _)⟩
/-- names, in their order -/
def gNames (is : List Nat) : TGs := fun vs σ H Q => vs.length = is.length ∧ Q (setV is vs σ) H
theorem gn_nil : PGs X [] (gNames []) := pgsWeak pgs_nil fun vs σ H Q ⟨h, q⟩ => by
  obtain rfl := List.length_eq_zero_iff.mp h
  exact ⟨rfl, q⟩
theorem gn_cons {i : Nat} {x : Str} {pos : Pos} {es : List Expr} {is : List Nat} (nd : X.N.Nodup) (hN : X.N[i]? = some x) (hl : Loc X.env.scope x) (hf : X.fn x = true ∨ X.env.scope.names.lookup x = some .local) (h : PGs X es (gNames is)) : PGs X (.Name x pos :: es) (gNames (i :: is)) :=
  pgsWeak (pgs_cons (pg_name nd hN hl hf) h) fun vs σ H Q ⟨hl, q⟩ => by
    cases vs with
    | nil => cases hl
    | cons v vs => exact ⟨v, vs, rfl, by simpa using hl, q⟩
theorem s_parN {es vs : List Expr} {k k2 : Nat} {p1 p2 pos : Pos} {ts : List (Bool × Nat)} {cs : List E} (hc : X.calm = true) (hl : cs.length ≤ sizeLine) (el : ts.length = cs.length) (ha : PA X vs (tP X.K Y (ts.map (·.1)) cs)) (hg : PGs X es (gNames (ts.map (·.2))))
    (hn : (assignEach es X.env).length = ts.length) (hst : (assignEach es X.env).findIdx? (·.1) = none)
    (hs : swapsWithSole [.Tuple es k p1] (.Tuple vs k2 p2) pos.line X.env = pure false) (hw : swappedStores [.Tuple es k p1] (.Tuple vs k2 p2) X.env = pure none) (h1 : (assignEach [.Tuple es k p1] X.env).map (·.2) = [assign (.Tuple es k p1) X.env]) :
    PS X (.Assign [.Tuple es k p1] (.Tuple vs k2 p2) pos) (tS X.K Y (.par ts cs)) :=
  psWeak (ps_asg (pe_tup ha) (pg_tup hc hg hn hst) hs hw h1) fun B σ H q => by
    obtain ⟨gg, hg0, env, hp, m, S, ev⟩ := par_reads q
    refine ⟨gg, hg0, env, hp, m, S, ev.imp (fun ds hp' ⟨hf, q⟩ => ⟨hf, fun vs L H1 m1 S1 st1 r1 hL => ?_⟩) fun _ _ _ _ x => x⟩
    obtain ⟨hlen, q⟩ := q vs L H1 m1 S1 st1 r1 hL
    refine ⟨by omega, fun p hp => ⟨p, vs, rfl, ?_, hlen, by rw [List.length_map]; exact hlen, q _ (Evl.Ex.new hp)⟩⟩
    exact .inl (.inl (upd_same ..))
/-! one more statement after another -/
theorem s_pass {pos : Pos} : PS X (.Pass pos) (tS X.K Y .pass) := psWeak ps_pass fun B σ H ⟨g, env, hp, m, hg, S, fl, hp', ev, q⟩ => by
  obtain ⟨rfl, rfl⟩ := rok_inj (show some (Out.ok (Flow.nx env) hp) = some (.ok fl hp') from ev)
  exact q _ _ m S SStep.refl
theorem s_brk {pos : Pos} : PS X (.Break pos) (tS X.K Y .brk) := psWeak ps_break fun B σ H ⟨g, env, hp, m, hg, S, fl, hp', ev, q⟩ => by
  obtain ⟨rfl, rfl⟩ := rok_inj (show some (Out.ok (Flow.brk env) hp) = some (.ok fl hp') from ev)
  exact q _ _ m S SStep.refl
theorem s_cont {pos : Pos} : PS X (.Continue pos) (tS X.K Y .cont) := psWeak ps_continue fun B σ H ⟨g, env, hp, m, hg, S, fl, hp', ev, q⟩ => by
  obtain ⟨rfl, rfl⟩ := rok_inj (show some (Out.ok (Flow.cont env) hp) = some (.ok fl hp') from ev)
  exact q _ _ m S SStep.refl
theorem s_ret {e : Expr} {c : E} {pos : Pos} (h : ∀ g : Gh, g.y = Y.y → PE X e (tE X.K Y g c)) : PS X (.Return (some e) pos) (tS X.K Y (.ret c)) := psWeak (ps_ret (eg h)) fun B σ H ⟨g, env, hp, m, hg, S, fl, hp', ev, q⟩ => by
  refine ⟨g, hg, env, hp, m, S, (bindS_RR (r := evE reprL Y.Γ c env hp) ev q).imp (fun d h1 ev v H1 m1 S1 st1 r1 => ?_) fun _ _ _ _ x => x⟩
  obtain ⟨rfl, rfl⟩ := rok_inj ev
  exact q v env σ H1 m1 S1 (SStep.of st1 SameOwn.refl) (r1.less fun a z => z.imp id .inr)
theorem s_ex {e : Expr} {c : E} {pos : Pos} (h : ∀ g : Gh, g.y = Y.y → PE X e (tE X.K Y g c)) (hs : swapsWith e none pos.line X.env = pure false) : PS X (.Expr e pos) (tS X.K Y (.ex c)) := psWeak (ps_expr (eg h) hs) fun B σ H ⟨g, env, hp, m, hg, S, fl, hp', ev, q⟩ => by
  refine ⟨g, hg, env, hp, m, S, (bindS_RR (r := evE reprL Y.Γ c env hp) ev q).imp (fun d h1 ev v H1 m1 S1 st1 r1 => ?_) fun _ _ _ _ x => x⟩
  obtain ⟨rfl, rfl⟩ := rok_inj ev
  exact q σ H1 m1 S1 (SStep.of st1 SameOwn.refl)
theorem s_if {t : Expr} {a b : List Stmt} {c : E} {ca cb : List S} {pos : Pos} (ht : ∀ g : Gh, g.y = Y.y → PT X t (tT X.K Y g c)) (ha : PSs X a (tSs X.K Y ca)) (hb : PSs X b (tSs X.K Y cb)) : PS X (.If t a b pos) (tS X.K Y (.ifs c ca cb)) :=
  psWeak (ps_if (Ev.tg ht) ha hb) fun B σ H ⟨g, env, hp, m, hg, S, fl, hp', ev, q⟩ => by
    refine ⟨g, hg, env, hp, m, S, (bindS_RR (r := evE reprL Y.Γ c env hp) ev q).imp (fun d h1 ev => ?_) fun _ _ _ _ x => x⟩
    cases d with
    | bl z =>
      refine ⟨z, rfl, fun H1 m1 S1 st1 => ?_⟩
      have q1 := q.step (SStep.of st1 (SameOwn.refl (env := env) (σ := σ)))
      cases z with
      | true => exact iteT ⟨g, env, h1, m1, hg, S1, fl, hp', ev, q1⟩
      | false => exact iteF ⟨g, env, h1, m1, hg, S1, fl, hp', ev, q1⟩
    | _ => cases ev
theorem s_aug {i : Nat} {x : Str} {e : Expr} {op : Operator} {o : Op2} {pos pos' : Pos} {c : E} (hN : X.N.Nodup) (hi : X.N[i]? = some x) (hx : Loc X.env.scope x) (h : ∀ g : Gh, g.y = Y.y → PE X e (tE X.K Y g c))
    (ho : PIp X op fun x y H Q => ∃ (Fb : Addr → Prop) (m : List Addr) (d d' r : D), Rep X.K Fb m H x d ∧ Rep X.K Fb m H y d' ∧ augOp o d d' = some r ∧ ∀ v, (∀ Fb m H, Rep X.K Fb m H v r) → Q v H) (hf : X.fn x = true ∨ X.env.scope.names.lookup x = some .local) :
    PS X (.AugAssign (.Name x pos') op e pos) (tS X.K Y (.aug i o c)) := psWeak (ps_aug hN hi hx (eg h) ho hf) fun B σ H ⟨g, env, hp, m, hg, S, fl, hp', ev, q⟩ => by
  simp only [evS] at ev
  cases hd : Sl.get env[i]? with
  | none =>
    rw [hd] at ev
    cases ev
  | some d =>
    rw [hd] at ev
    have hd' : env[i]? = some (.val d) := by
      cases hx : env[i]? with
      | none =>
        rw [hx] at hd
        cases hd
      | some y =>
        rw [hx] at hd
        cases y <;> first | (cases hd; rfl) | cases hd
    obtain ⟨v, k1, k2⟩ := S.slots i _ hd'
    refine ⟨v, k1, g, hg, env, hp, m, S, (bindS_RR (r := evE reprL Y.Γ c env hp) ev q).imp (fun d' h1 ev u H1 m1 S1 st1 r1 => ?_) fun _ _ _ _ x => x⟩
    obtain ⟨r, h2, e2, ev2⟩ := bind_some ev
    obtain ⟨e3, rfl⟩ := lift_ok e2
    obtain ⟨rfl, rfl⟩ := rok_inj ev2
    refine ⟨Fbd g env σ m1, m1, d, d', r, k2.step S.at_m st1, r1, e3, fun w rw' => ?_⟩
    obtain ⟨S2, so⟩ := S1.putVal (i := i) (d := r) (v := w) (by rw [hd']; exact Bool.false_ne_true) (rw' _ _ _)
    exact q _ H1 m1 S2 ((SStep.of st1 SameOwn.refl).trans (SStep.of Step.refl so))
end
end Ev
end

section
set_option Elab.async false
set_option linter.all false
set_option maxRecDepth 100000
namespace Ev
open PySem L2 PyProof.Rows
variable [TabList]
section
variable {Γ : Gm} {Y : Yd} {X : Cx}
/-! for -/
def forTurn (Γ : Gm) (t : Tg) (body : List S) (x : D) (env : Env) (h : Heap) : R Flow := match setTg t x env with
  | some env => evSs reprL Γ body env h
  | none => none
theorem s_for {tg iter : Expr} {body : List Stmt} {t : Tg} {it : E} {cb : List S} {pos : Pos} (hp : PassesOwn (model X.prog X.w) X.A X.env X.xe) (hc : X.calm = true) (hi : ∀ g : Gh, g.y = Y.y → PI X tg iter (tI X.K Y g true it)) (hg : PG X tg (gT X.K t)) (hb : PSs X body (tSs X.K Y cb))
    (hs : ∀ x, foldedSetIterable iter X.env x = pure x) : PS X (.For tg iter body [] pos) (tS X.K Y (.for t it cb)) :=
  psWeak (ps_for hp hc (ig hi) hg hb hs) fun B σ H ⟨g, env, hp, m, hg, S, fl, hp', ev, q⟩ => by
    refine ⟨g, hg, env, hp, m, S, (bindS_RR (r := evE reprL Y.Γ it env hp) ev q).imp (fun s h1 ev => ?_) fun _ _ _ _ x => x⟩
    have hw : ∃ xs, walk? s = some xs ∧ forLoop (forTurn Y.Γ t cb) xs env h1 = some (.ok fl hp') := by
      cases hw : walk? s with
      | none =>
        rw [hw] at ev
        cases ev
      | some xs =>
        rw [hw] at ev
        exact ⟨xs, rfl, ev⟩
    obtain ⟨xs, hw, ev⟩ := hw
    refine ⟨xs, hw, fun J ok H1 m1 S1 st1 wk ok1 _ => ?_⟩
    have q1 := q.step (SStep.of st1 (SameOwn.refl (env := env) (σ := σ)))
    refine ⟨fun i μ σ2 H2 => μ = xs.length - i ∧ i ≤ xs.length ∧ ∃ env2 h2 m2, StRel X.K g env2 h2 m2 σ2 H2 ∧ SStep env σ m1 H1 env2 σ2 m2 H2 ∧ ok g env2 σ2 m2 H2 ∧ forLoop (forTurn Y.Γ t cb) (xs.drop i) env2 h2 = some (.ok fl hp'), ⟨xs.length, by simp, Nat.zero_le _, env, h1, m1, S1, SStep.refl, ok1, ev⟩, ?_⟩
    rintro i μ σ2 H2 ⟨rfl, hi, env2, h2, m2, S2, st2, ok2, e2⟩
    by_cases hlt : i < xs.length
    · refine .inr ?_
      obtain ⟨go, yl⟩ := wk.go g env2 h2 σ2 m2 H2 i S2 ok2 hlt
      refine ⟨go, fun σ3 H3 => i + 1 ≤ xs.length ∧ ∃ env3 h3 m3, StRel X.K g env3 h3 m3 σ3 H3 ∧ SStep env σ m1 H1 env3 σ3 m3 H3 ∧ ok g env3 σ3 m3 H3 ∧ forLoop (forTurn Y.Γ t cb) (xs.drop (i + 1)) env3 h3 = some (.ok fl hp'),
        fun σ3 H3 h => ⟨xs.length - (i + 1), by omega, rfl, h⟩, fun x H3 y => ?_⟩
      obtain ⟨ex3, d, hd, rx⟩ := yl x H3 y
      have hdrop : xs.drop i = d :: xs.drop (i + 1) := by
        obtain ⟨hl, rfl⟩ := List.getElem?_eq_some_iff.mp hd
        exact List.drop_eq_getElem_cons hl
      rw [hdrop] at e2
      obtain ⟨fl1, h3, e3, e2⟩ := bind_some (show R.bind (forTurn Y.Γ t cb d env2 h2) _ = _ from e2)
      unfold forTurn at e3
      split at e3
      · rename_i env3 hset
        have S3 : StRel X.K g env2 h2 m2 σ2 H3 := S2.ext ex3
        refine ⟨g, env2, h2, m2, d, env3, S3, rx, hset, fun σ4 S4 so4 _ _ => ⟨g, env3, h2, m2, hg, S4, fl1, h3, e3, ?_⟩⟩
        have st4 : SStep env2 σ2 m2 H2 env3 σ4 m2 H3 := (SStep.of (Step.ext ex3) SameOwn.refl).trans (SStep.of Step.refl so4)
        have fin : ∀ {env5 : Env} {σ5 : L2.St} {H5 : Hp} {m5 : List Addr}, forLoop (forTurn Y.Γ t cb) (xs.drop (i + 1)) env5 h3 = some (.ok fl hp') → StRel X.K g env5 h3 m5 σ5 H5 → SStep env3 σ4 m2 H3 env5 σ5 m5 H5 →
            i + 1 ≤ xs.length ∧ ∃ env3 h3 m3, StRel X.K g env3 h3 m3 σ5 H5 ∧ SStep env σ m1 H1 env3 σ5 m3 H5 ∧ ok g env3 σ5 m3 H5 ∧ forLoop (forTurn Y.Γ t cb) (xs.drop (i + 1)) env3 h3 = some (.ok fl hp') := fun {env5 σ5 H5 m5} e5 S5 st5 =>
          ⟨hlt, env5, h3, m5, S5, st2.trans (st4.trans st5), wk.keep g env2 h2 σ2 m2 H2 env5 σ5 m5 H5 S2 (st4.trans st5) ok2, e5⟩
        cases fl1 with
        | nx env5 => exact fun σ5 H5 m5 S5 st5 => fin e2 S5 st5
        | cont env5 => exact fun σ5 H5 m5 S5 st5 => fin e2 S5 st5
        | brk env5 =>
          obtain ⟨rfl, rfl⟩ := rok_inj (show some (Out.ok (Flow.nx env5) h3) = some (.ok fl hp') from e2)
          exact fun σ5 H5 m5 S5 st5 => q1 σ5 H5 m5 S5 (st2.trans (st4.trans st5))
        | ret d =>
          obtain ⟨rfl, rfl⟩ := rok_inj (show some (Out.ok (Flow.ret d) h3) = some (.ok fl hp') from e2)
          exact fun v env5 σ5 H5 m5 S5 st5 r5 => q1 v env5 σ5 H5 m5 S5 (st2.trans (st4.trans st5)) r5
        | exc e c ns fs =>
          obtain ⟨rfl, rfl⟩ := rok_inj (show some (Out.ok (Flow.exc e c ns fs) h3) = some (.ok fl hp') from e2)
          exact fun σ5 H5 m5 d vs S5 st5 => q1 σ5 H5 m5 d vs S5 (st2.trans (st4.trans st5))
      · cases e3
    · have hi' : i = xs.length := by omega
      subst hi'
      refine .inl ⟨wk.stop _ _ _ _ _ ok2, ?_⟩
      rw [List.drop_length] at e2
      obtain ⟨rfl, rfl⟩ := rok_inj (show some (Out.ok (Flow.nx env2) h2) = some (.ok fl hp') from e2)
      exact q1 σ2 H2 m2 S2 st2
/-! while -/
inductive RunW (f : Env → Heap → R (Sum Env Flow)) : Nat → Env → Heap → Flow → Heap → Prop
  | stop {n env h fl h'} : f env h = some (.ok (.inr fl) h') → RunW f n env h fl h'
  | more {n env h env1 h1 fl h'} : f env h = some (.ok (.inl env1) h1) → RunW f n env1 h1 fl h' → RunW f (n + 1) env h fl h'
theorem loopW_run {f : Env → Heap → R (Sum Env Flow)} {env : Env} {h h' : Heap} {fl : Flow} (e : loopW f env h = some (.ok fl h')) : ∃ n, RunW f n env h fl h' := by
  refine loopW.partial_correctness f (fun env h o => ∀ fl h', o = .ok fl h' → ∃ n, RunW f n env h fl h') (fun lp ih env h o ho fl h' eo => ?_) env h (.ok fl h') e fl h' rfl
  subst eo
  cases hf : f env h with
  | none =>
    rw [hf] at ho
    cases ho
  | some o =>
    rw [hf] at ho
    cases o with
    | err c ns fs h => cases ho
    | ok s h1 =>
      cases s with
      | inr fl1 =>
        cases ho
        exact ⟨0, .stop hf⟩
      | inl env1 =>
        obtain ⟨n, r⟩ := ih env1 h1 _ ho fl h' rfl
        exact ⟨n + 1, .more hf r⟩
def whileTurn (Γ : Gm) (c : E) (body : List S) (env : Env) (h : Heap) : R (Sum Env Flow) := match evE reprL Γ c env h with
    | some (.ok (.bl true) h) => R.bind (evSs reprL Γ body env h) fun fl h => match fl with
      | .nx env => rok (.inl env) h
      | .cont env => rok (.inl env) h
      | .brk env => rok (.inr (.nx env)) h
      | .ret d => rok (.inr (.ret d)) h
      | .exc env c ns fs => rok (.inr (.exc env c ns fs)) h
    | some (.ok (.bl false) h) => rok (.inr (.nx env)) h
    | some (.err c ns fs h) => rok (.inr (.exc env c ns fs)) h
    | _ => none
theorem runW_at {f : Env → Heap → R (Sum Env Flow)} {μ : Nat} {env : Env} {h h' : Heap} {fl : Flow} {w : R (Sum Env Flow)} (r : RunW f μ env h fl h') (e : f env h = w) : (w = some (.ok (.inr fl) h')) ∨ ∃ ν env1 h1, ν < μ ∧ w = some (.ok (.inl env1) h1) ∧ RunW f ν env1 h1 fl h' := by
  subst e
  cases r with
  | stop e => exact .inl e
  | more e r => exact .inr ⟨_, _, _, Nat.lt_succ_self _, e, r⟩
/-- the body's end, in a loop -/
def turnEnd : Flow → Heap → R (Sum Env Flow)
  | .nx env, h => rok (.inl env) h
  | .cont env, h => rok (.inl env) h
  | .brk env, h => rok (.inr (.nx env)) h
  | .ret d, h => rok (.inr (.ret d)) h
  | .exc env c ns fs, h => rok (.inr (.exc env c ns fs)) h
theorem s_while {t : Expr} {body : List Stmt} {c : E} {cb : List S} {pos : Pos} (hp : PassesOwn (model X.prog X.w) X.A X.env X.xe) (ht : ∀ g : Gh, g.y = Y.y → PT X t (tT X.K Y g c)) (hb : PSs X body (tSs X.K Y cb)) : PS X (.While t body [] pos) (tS X.K Y (.whil c cb)) :=
  psWeak (ps_while hp (Ev.tg ht) hb) fun B σ H ⟨g, env, hp, m, hg, S, fl, hp', ev, q⟩ => by
    obtain ⟨n, run⟩ := loopW_run (f := whileTurn Y.Γ c cb) (show loopW (whileTurn Y.Γ c cb) env hp = some (.ok fl hp') from ev)
    refine ⟨fun μ σ2 H2 => ∃ env2 h2 m2, StRel X.K g env2 h2 m2 σ2 H2 ∧ SStep env σ m H env2 σ2 m2 H2 ∧ RunW (whileTurn Y.Γ c cb) μ env2 h2 fl hp', ⟨n, env, hp, m, S, SStep.refl, run⟩, ?_⟩
    rintro μ σ2 H2 ⟨env2, h2, m2, S2, st2, run⟩
    have at_ : ∀ {w}, whileTurn Y.Γ c cb env2 h2 = w → _ := fun e => runW_at run e
    refine ⟨g, hg, env2, h2, m2, S2, ?_⟩
    cases hc : evE reprL Y.Γ c env2 h2 with
    | none =>
      have e : whileTurn Y.Γ c cb env2 h2 = none := by
        unfold whileTurn
        rw [hc]
      rcases at_ e with z | ⟨_, _, _, _, z, _⟩ <;> cases z
    | some o => cases o with
      | err k ns fs h3 =>
        have e : whileTurn Y.Γ c cb env2 h2 = rok (.inr (.exc env2 k ns fs)) h3 := by
          unfold whileTurn
          rw [hc]
        rcases at_ e with z | ⟨_, _, _, _, z, _⟩
        · cases z
          exact fun H' m' d vs S' st e l r => q σ2 H' m' d vs S' (st2.trans (SStep.of st SameOwn.refl)) e l r
        · cases z
      | ok d h3 =>
        by_cases hd : ∃ z, d = .bl z
        · obtain ⟨z, rfl⟩ := hd
          refine ⟨z, rfl, fun H3 m3 S3 st3 => ?_⟩
          have st' : SStep env2 σ2 m2 H2 env2 σ2 m3 H3 := SStep.of st3 SameOwn.refl
          cases z with
          | false =>
            refine iteF ?_
            have e : whileTurn Y.Γ c cb env2 h2 = rok (.inr (.nx env2)) h3 := by
              unfold whileTurn
              rw [hc]
            rcases at_ e with z | ⟨_, _, _, _, z, _⟩
            · cases z
              exact q σ2 H3 m3 S3 (st2.trans st')
            · cases z
          | true =>
            refine iteT ⟨fun σ5 H5 => ∃ μ', μ' < μ ∧ ∃ env5 h5 m5, StRel X.K g env5 h5 m5 σ5 H5 ∧ SStep env σ m H env5 σ5 m5 H5 ∧ RunW (whileTurn Y.Γ c cb) μ' env5 h5 fl hp', fun σ' H' h => h, ?_⟩
            have e : whileTurn Y.Γ c cb env2 h2 = R.bind (evSs reprL Y.Γ cb env2 h3) turnEnd := by
              unfold whileTurn
              rw [hc]
              show R.bind (evSs reprL Y.Γ cb env2 h3) _ = _
              congr 1
              funext fl h
              cases fl <;> rfl
            cases hb : evSs reprL Y.Γ cb env2 h3 with
            | none =>
              rw [hb] at e
              rcases at_ e with z | ⟨_, _, _, _, z, _⟩ <;> cases z
            | some o => cases o with
              | err k ns fs h4 =>
                rw [hb] at e
                rcases at_ e with z | ⟨_, _, _, _, z, _⟩ <;> cases z
              | ok fl1 h4 =>
                rw [hb] at e
                refine ⟨g, env2, h3, m3, hg, S3, fl1, h4, hb, ?_⟩
                have ends := at_ e
                cases fl1 with
                | nx env5 =>
                  rcases ends with z | ⟨ν, _, _, hν, z, r⟩
                  · cases z
                  · cases z
                    exact fun σ5 H5 m5 S5 st5 => ⟨ν, hν, env5, h4, m5, S5, st2.trans (st'.trans st5), r⟩
                | cont env5 =>
                  rcases ends with z | ⟨ν, _, _, hν, z, r⟩
                  · cases z
                  · cases z
                    exact fun σ5 H5 m5 S5 st5 => ⟨ν, hν, env5, h4, m5, S5, st2.trans (st'.trans st5), r⟩
                | brk env5 =>
                  rcases ends with z | ⟨_, _, _, _, z, _⟩
                  · cases z
                    exact fun σ5 H5 m5 S5 st5 => q σ5 H5 m5 S5 (st2.trans (st'.trans st5))
                  · cases z
                | ret d =>
                  rcases ends with z | ⟨_, _, _, _, z, _⟩
                  · cases z
                    exact fun v env5 σ5 H5 m5 S5 st5 r5 => q v env5 σ5 H5 m5 S5 (st2.trans (st'.trans st5)) r5
                  · cases z
                | exc e k ns fs =>
                  rcases ends with z | ⟨_, _, _, _, z, _⟩
                  · cases z
                    exact fun σ5 H5 m5 d vs S5 st5 => q σ5 H5 m5 d vs S5 (st2.trans (st'.trans st5))
                  · cases z
        · have e : whileTurn Y.Γ c cb env2 h2 = none := by
            unfold whileTurn
            rw [hc]
            cases d <;> first | rfl | exact absurd ⟨_, rfl⟩ hd
          rcases at_ e with z | ⟨_, _, _, _, z, _⟩ <;> cases z
end
end Ev
end

section
set_option Elab.async false
set_option linter.all false
set_option maxRecDepth 100000
namespace Ev
open PySem L2 PyProof.Rows
variable [TabList]
/-! ### what changes -/
section
variable {K : PySem.W.Frag} {g : Gh} {env env' : Env} {hp hp' : Heap} {m m' : List Addr} {σ σ' : L2.St} {H H' : Hp}
theorem Bor.updIn {a b : Addr} {o : HO} {vs : List V} (hw : b = a → a ∉ m → SqL K (fun _ => none) b vs) (hm : a ∈ m ∨ a ∉ m) (h : Bor K m H b vs) : Bor K m (upd H a o) b vs := by
  by_cases e : b = a
  · rcases hm with hm | hm
    · rcases h with ⟨_, n⟩ | h
      · exact absurd (e ▸ hm) n
      · exact .inr h
    · exact .inr (hw e hm)
  · rcases h with ⟨h | ⟨o', h⟩, n⟩ | h
    · exact .inl ⟨.inl (by rw [upd_ne e]; exact h), n⟩
    · exact .inl ⟨.inr ⟨o', by rw [upd_ne e]; exact h⟩, n⟩
    · exact .inr h
theorem there_upd {a b : Addr} {o u : HO} (h : H b = some u) : ∃ u', upd H a o b = some u' := by
  by_cases e : b = a
  · rw [e, upd_same]
    exact ⟨_, rfl⟩
  · rw [upd_ne e]
    exact ⟨u, h⟩
/-- what is owned changes -/
theorem StRel.ownUpd {i : Nat} {a : Addr} {d d' : D} {o' : HO} (S : StRel K g env hp m σ H) (hd : env[i]? = some (.own d)) (hs : σ[i]? = some (some (.ref a))) (r : Of K (Fbd g env σ m) m H o' d') :
    StRel K g (env.set i (.own d')) hp m σ (upd H a o') ∧ SStep env σ m H (env.set i (.own d')) σ m (upd H a o') := by
  obtain ⟨a', o, k1, k3, k4, k5, k6, k7⟩ := S.slots i _ hd
  rw [hs] at k1
  cases k1
  have fr : Free H a := .inr ⟨o, k3, k4.dat⟩
  have hi : i < env.length := (List.getElem?_eq_some_iff.mp hd).1
  have hf : Fbd g env σ m a := .inr (.inl ⟨i, _, hd, hs⟩)
  have own : ∀ b, isOwn (env.set i (.own d')) σ b ↔ isOwn env σ b := fun b => by
    constructor
    · rintro ⟨j, e, h1, h2⟩
      by_cases hj : i = j
      · subst hj
        exact ⟨i, _, hd, h2⟩
      · rw [List.getElem?_set_ne hj] at h1
        exact ⟨j, e, h1, h2⟩
    · rintro ⟨j, e, h1, h2⟩
      by_cases hj : i = j
      · subst hj
        exact ⟨i, _, List.getElem?_set_self hi, h2⟩
      · exact ⟨j, e, by rw [List.getElem?_set_ne hj]; exact h1, h2⟩
  have fb : Fbd g (env.set i (.own d')) σ m = Fbd g env σ m := SameOwn.fbd own
  refine ⟨⟨by rw [List.length_set]; exact S.len, fun j y hj => ?_, fun j l d e b h1 h2 h3 h4 => ?_, S.cells, fun k xs h => ?_, S.nd, fun b h => ?_, fun b o h n nt => ?_, S.more, tabs_upd S.tabs fr, fun b h => has_upd (S.has b h)⟩, ⟨⟨[], by simp, by simp⟩, fun b o h n no nt => ⟨?_, fun z => no ((own b).mp z)⟩, fun b o h => there_upd h, fun T t => tabs_upd t fr⟩⟩
  · by_cases e : i = j
    · subst e
      rw [List.getElem?_set_self hi] at hj
      cases hj
      exact ⟨a, o', hs, upd_same .., r.imp fun _ _ r => by rw [fb]; exact r.updIn fr hf, k5, k6, k7⟩
    · rw [List.getElem?_set_ne e] at hj
      refine (S.slots j y hj).move rfl rfl rfl (fun _ _ r => by rw [fb]; exact r.updIn fr hf) (fun _ _ r => by rw [fb]; exact r.updIn fr hf) (fun d2 b u hy h1 h2 _ _ h5 h6 => ?_) (fun b vs w h3 => h3.updIn (fun e _ => w (e ▸ k5)) (.inr k6)) fun b u h nd _ => by rw [upd_ne (fr.ne h nd)]; exact h
      subst hy
      have ne : b ≠ a := fun z => e (S.apart i j _ d2 a hd hj hs (z ▸ h1))
      exact ⟨by rw [upd_ne ne]; exact h2, h5, h6⟩
  · have back : ∀ {n : Nat} {f : D}, (env.set i (.own d'))[n]? = some (.own f) → ∃ f', env[n]? = some (.own f') := fun {n f} k => by
      by_cases e : i = n
      · subst e
        exact ⟨_, hd⟩
      · rw [List.getElem?_set_ne e] at k
        exact ⟨_, k⟩
    obtain ⟨d', h1⟩ := back h1
    obtain ⟨e', h2⟩ := back h2
    exact S.apart j l d' e' b h1 h2 h3 h4
  · obtain ⟨b, u, h1, h2, h3⟩ := S.cell k xs h
    have ne : b ≠ a := fun z => k6 (z ▸ List.mem_of_getElem? h1)
    exact ⟨b, u, h1, by rw [upd_ne ne]; exact h2, h3.imp fun _ _ r => by rw [fb]; exact r.updIn fr hf⟩
  · by_cases e : b = a
    · rw [e, upd_same]
      simp
    · rw [upd_ne e]
      exact S.pr b h
  · have ne : b ≠ a := fun z => by
      rw [z, k5] at h
      cases h
    rw [upd_ne ne]
    exact S.frame b o h n nt
  · have ne : b ≠ a := fun z => no (z ▸ ⟨i, _, hd, hs⟩)
    rw [upd_ne ne]
    exact h
/-- a cell changes -/
theorem StRel.cellUpd {k : Nat} {a : Addr} {d d' : D} {o' : HO} (S : StRel K g env hp m σ H) (hk : hp[k]? = some d) (ha : m[k]? = some a) (r : Of K (Fbd g env σ m) m H o' d') :
    StRel K g env (hp.set k d') m σ (upd H a o') ∧ Step m H m (upd H a o') := by
  obtain ⟨a', o, k1, k3, k4⟩ := S.cell k d hk
  rw [ha] at k1
  cases k1
  have fr : Free H a := .inr ⟨o, k3, k4.dat⟩
  have hm : a ∈ m := List.mem_of_getElem? ha
  have hf : Fbd g env σ m a := .inr (.inr hm)
  have hl : k < hp.length := (List.getElem?_eq_some_iff.mp hk).1
  refine ⟨⟨S.len, fun j y hj => ?_, S.apart, by rw [List.length_set]; exact S.cells, fun l ys h => ?_, S.nd, fun b h => ?_, fun b o h n nt => ?_, S.more, tabs_upd S.tabs fr, fun b h => has_upd (S.has b h)⟩, ⟨⟨[], by simp, by simp⟩, fun b o h n nt => ?_, fun b o h => there_upd h, fun T t => tabs_upd t fr⟩⟩
  · refine (S.slots j y hj).move rfl rfl rfl (fun _ _ r => r.updIn fr hf) (fun _ _ r => r.updIn fr hf) (fun d2 b u hy h1 h2 _ _ h5 h6 => ?_) (fun b vs w h3 => h3.updIn (fun _ n => absurd hm n) (.inl hm)) fun b u h nd _ => by rw [upd_ne (fr.ne h nd)]; exact h
    have ne : b ≠ a := fun z => h5 (z ▸ hm)
    exact ⟨by rw [upd_ne ne]; exact h2, h5, h6⟩
  · by_cases e : k = l
    · subst e
      rw [List.getElem?_set_self hl] at h
      cases h
      exact ⟨a, o', ha, upd_same .., r.imp fun _ _ r => r.updIn fr hf⟩
    · rw [List.getElem?_set_ne e] at h
      obtain ⟨b, u, h1, h2, h3⟩ := S.cell l ys h
      have ne : b ≠ a := fun z => by
        subst z
        obtain ⟨p1, p2⟩ := List.getElem?_eq_some_iff.mp ha
        obtain ⟨q1, q2⟩ := List.getElem?_eq_some_iff.mp h1
        exact e ((List.getElem_inj S.nd).mp (p2.trans q2.symm))
      exact ⟨b, u, h1, by rw [upd_ne ne]; exact h2, h3.imp fun _ _ r => r.updIn fr hf⟩
  · by_cases e : b = a
    · rw [e, upd_same]
      simp
    · rw [upd_ne e]
      exact S.pr b h
  · have ne : b ≠ a := fun z => by
      subst z
      obtain ⟨r', e, f⟩ := S.more
      rw [e] at hm
      obtain q | q := List.mem_append.mp hm
      · exact n q
      · rw [f b q] at h
        cases h
    rw [upd_ne ne]
    exact S.frame b o h n nt
  · have ne : b ≠ a := fun z => n (z ▸ hm)
    rw [upd_ne ne]
    exact h
/-- something becomes a cell -/
theorem StRel.newCell {a : Addr} {o : HO} {d : D} (S : StRel K (g.guard a) env hp m σ H) (ha : H a = some o) (r : Of K (Fbd (g.guard a) env σ m) m H o d) (hm : a ∉ m) (h0 : g.H0 a = none) (hpr : ¬ g.Pr a) :
    StRel K g env (hp ++ [d]) (m ++ [a]) σ H := by
  have fb : ∀ b, Fbd g env σ (m ++ [a]) b → Fbd (g.guard a) env σ m b := fun b z => by
    rcases z with z | z | z
    · exact .inl (.inl z)
    · exact .inr (.inl z)
    · rcases List.mem_append.mp z with z | z
      · exact .inr (.inr z)
      · exact .inl (.inr (List.mem_singleton.mp z))
  have get : ∀ {k : Nat} {b : Addr}, m[k]? = some b → (m ++ [a])[k]? = some b := fun {k b} h => by
    rw [List.getElem?_append_left (List.getElem?_eq_some_iff.mp h).1]
    exact h
  have mv : ∀ v d, Rep K (Fbd (g.guard a) env σ m) m H v d → Rep K (Fbd g env σ (m ++ [a])) (m ++ [a]) H v d := fun v d r => r.move (fun _ _ h => h) (fun b _ h _ n => ⟨h, fun z => n (fb b z)⟩) fun _ _ h => get h
  have mvL : ∀ v d, RepL K (Fbd (g.guard a) env σ m) m H v d → RepL K (Fbd g env σ (m ++ [a])) (m ++ [a]) H v d := fun v d r => r.move (fun _ _ h => h) (fun b _ h _ n => ⟨h, fun z => n (fb b z)⟩) fun _ _ h => get h
  refine ⟨S.len, fun j y hj => ?_, S.apart, by rw [List.length_append, List.length_append, S.cells]; rfl, fun l ys h => ?_, ?_, fun b h => S.pr b (.inl h), S.frame, ?_, S.tabs, S.has⟩
  · refine (S.slots j y hj).move rfl rfl rfl mv mvL (fun d2 b u hy h1 h2 _ _ h5 h6 => ⟨h2, fun z => ?_, fun z => h6 (.inl z)⟩) (fun b vs w h3 => ?_) fun b u h _ _ => h
    · rcases List.mem_append.mp z with z | z
      · exact h5 z
      · exact h6 (.inr (List.mem_singleton.mp z))
    · by_cases e : b = a
      · exact .inr (w (e ▸ h0))
      · rcases h3 with ⟨h, n⟩ | h
        · exact .inl ⟨h, fun z => (List.mem_append.mp z).elim n fun z => e (List.mem_singleton.mp z)⟩
        · exact .inr h
  · by_cases e : l < hp.length
    · rw [List.getElem?_append_left e] at h
      obtain ⟨b, u, h1, h2, h3⟩ := S.cell l ys h
      exact ⟨b, u, get h1, h2, h3.imp mvL⟩
    · have hl : l = hp.length := by
        have := (List.getElem?_eq_some_iff.mp h).1
        rw [List.length_append] at this
        simp at this
        omega
      subst hl
      rw [List.getElem?_append_right (Nat.le_refl _), Nat.sub_self] at h
      cases h
      exact ⟨a, o, by rw [← S.cells, List.getElem?_append_right (Nat.le_refl _), Nat.sub_self]; rfl, ha, r.imp mvL⟩
  · rw [List.nodup_append]
    exact ⟨S.nd, by simp, fun x hx y hy e => hm (by rw [List.mem_singleton.mp hy] at e; exact e ▸ hx)⟩
  · obtain ⟨r', e, f⟩ := S.more
    refine ⟨r' ++ [a], by rw [e]; simp [Gh.guard], fun b hb => ?_⟩
    obtain hb | hb := List.mem_append.mp hb
    · exact f b hb
    · rw [List.eq_of_mem_singleton hb]
      exact h0
theorem Step.grow {a : Addr} (s : Step m H m' H') (ha : H a = none) : Step m H (m' ++ [a]) H' := by
  obtain ⟨⟨r, e, f⟩, k, t, u⟩ := s
  refine ⟨⟨r ++ [a], by rw [e]; simp, fun b hb => ?_⟩, fun b o h n nt => k b o h n nt, t, u⟩
  obtain hb | hb := List.mem_append.mp hb
  · exact f b hb
  · rw [List.eq_of_mem_singleton hb]
    exact ha
/-- a list in a cell -/
theorem StRel.lstCell {k : Nat} {xs : List D} (S : StRel K g env hp m σ H) (h : hp[k]? = some (.lst xs)) : ∃ a vs, m[k]? = some a ∧ H a = some (.lst vs) ∧ RepL K (Fbd g env σ m) m H vs xs := by
  obtain ⟨a, o, h1, h2, vs, rfl, h3⟩ := S.cell k _ h
  exact ⟨a, vs, h1, h2, h3⟩
theorem StRel.objCell {k c : Nat} {ns : List Str} {ds : List D} (S : StRel K g env hp m σ H) (h : hp[k]? = some (.obj c ns ds)) : ∃ a dx vs, m[k]? = some a ∧ H a = some (.ins (TabList.cls c) dx (ns.zip vs)) ∧ vs.length = ns.length ∧ RepL K (Fbd g env σ m) m H vs ds := by
  obtain ⟨a, o, h1, h2, dx, vs, rfl, h3, h4⟩ := S.cell k _ h
  exact ⟨a, dx, vs, h1, h2, h3, h4⟩
theorem StRel.lstOwn {i : Nat} {xs : List D} (S : StRel K g env hp m σ H) (h : env[i]? = some (.own (.lst xs))) : ∃ a vs, σ[i]? = some (some (.ref a)) ∧ H a = some (.lst vs) ∧ RepL K (Fbd g env σ m) m H vs xs := by
  obtain ⟨a, o, h1, h2, ⟨vs, rfl, h3⟩, _⟩ := S.slots i _ h
  exact ⟨a, vs, h1, h2, h3⟩
end
section
variable {Y : Yd} {X : Cx} {g : Gh}
theorem e_cell {e : Expr} {c : E} (h : PE X e (tF X.K Y g c)) : PE X e (tE X.K Y g (.cell c)) := peWeak h fun σ H Q ⟨env, hp, m, S, ev⟩ => by
  have ev := RR.bind (r := evE reprL Y.Γ c env hp) ev
  refine ⟨env, hp, m, S, ev.imp (fun x h1 ev => ?_) fun _ _ _ _ x => x⟩
  cases x with
  | lst xs =>
    refine ⟨rfl, fun a o H1 m1 ha S1 st1 hm hv r1 => ?_⟩
    obtain ⟨z1, z2⟩ := S.new ha
    have q : ∀ v H' m', StRel X.K g env (h1 ++ [.lst xs]) m' σ H' → Step m H m' H' → Rep X.K (Fbd g env σ m') m' H' v (.ref h1.length) → Q v H' := ev
    refine q _ H1 (m1 ++ [a]) (S1.newCell hv r1 hm z1 z2) (st1.grow ha) (.ref ?_)
    rw [← S1.cells, List.getElem?_append_right (Nat.le_refl _), Nat.sub_self]
    rfl
  | _ => exact ev.elim
theorem e_pop {e : Expr} {c : E} {apos cpos : Pos} (h : PE X e (tE X.K Y g c)) (hbase : attributeBase e "pop" X.env (eval e X.env) = eval e X.env) (hline : (apos.endLine == cpos.line) = true) : PE X (.Call (.Attribute e "pop" apos) [] [] cpos) (tE X.K Y g (.pop c)) :=
  peWeak (pe_bm0 PySem.F.plainAttrs_list PySem.F.slot_list_pop PySem.F.type_list_pop mt_pop h hbase hline) fun σ H Q ⟨env, hp, m, S, ev⟩ => by
    have ev := RR.bind (r := evE reprL Y.Γ c env hp) ev
    refine ⟨env, hp, m, S, ev.imp (fun x h1 ev v H1 m1 S1 st1 r1 => ?_) fun _ _ _ _ x => x⟩
    cases x with
    | ref k =>
      have hw : ∃ xs y, h1[k]? = some (.lst xs) ∧ xs.getLast? = some y ∧ RR (rok y (h1.set k (.lst xs.dropLast))) (fun d hp' => ∀ v H' m', StRel X.K g env hp' m' σ H' → Step m H m' H' → Rep X.K (Fbd g env σ m') m' H' v d → Q v H') (XP X.K Y g env σ m H) := by
        simp only at ev
        split at ev
        · rename_i xs hk
          split at ev
          · rename_i y hy
            exact ⟨xs, y, hk, hy, ev⟩
          · exact ev.elim
        · exact ev.elim
      obtain ⟨xs, y, hk, hy, q⟩ := hw
      cases r1 with
      | ref hm =>
        rename_i a
        obtain ⟨a', vs, k1, k2, k3⟩ := S1.lstCell hk
        rw [hm] at k1
        cases k1
        have hlen := k3.length
        have hy' : xs[xs.length - 1]? = some y := by rw [← List.getLast?_eq_getElem?]; exact hy
        obtain ⟨w, hw, rw'⟩ := k3.get hy'
        rw [← hlen] at hw
        have rd : RepL X.K (Fbd g env σ m1) m1 H1 vs.dropLast xs.dropLast := by
          rw [List.dropLast_eq_take, List.dropLast_eq_take, hlen]
          exact k3.take _
        obtain ⟨S2, st2⟩ := S1.cellUpd hk hm (o' := .lst vs.dropLast) (d' := .lst xs.dropLast) ⟨_, rfl, rd⟩
        refine ⟨.inl ⟨rfl, vs, .inl (.inl k2)⟩, a, vs, w, rfl, rfl, k2, hw, ?_⟩
        exact (show ∀ v H' m', StRel X.K g env (h1.set k (.lst xs.dropLast)) m' σ H' → Step m H m' H' → Rep X.K (Fbd g env σ m') m' H' v y → Q v H' from q) _ _ m1 S2 (st1.trans st2) (rw'.updIn (.inr ⟨_, k2, trivial⟩) (.inr (.inr (List.mem_of_getElem? hm))))
    | _ => exact ev.elim
theorem s_boxApp {o e : Expr} {b c : E} {apos cpos pos : Pos} (ho : ∀ g : Gh, g.y = Y.y → PE X o (tE X.K Y g b)) (he : ∀ g : Gh, g.y = Y.y → PE X e (tE X.K Y g c)) (ns : notStar e = true) (hbase : attributeBase o "append" X.env (eval o X.env) = eval o X.env) (hline : (apos.endLine == cpos.line) = true)
    (hfew : ((backTo cpos (starEach [e] X.env)).all (fun x => !x.1) && (backToKw cpos (keywordEach [] X.env)).all (fun x => x.1.isSome) && decide ([e].length + ([] : List Keyword).length + (if ([] : List Keyword).isEmpty then 0 else 1) < 30)) = true) :
    PS X (.Expr (.Call (.Attribute o "append" apos) [e] [] cpos) pos) (tS X.K Y (.boxApp b c)) :=
  psWeak (ps_expr (pe_bm PySem.F.plainAttrs_list PySem.F.slot_list_append PySem.F.type_list_append mt_append (eg ho) (pa_cons (eg he) pa_nil (star_cons ns [] X.env)) hbase hfew hline (star_cons ns [] X.env) rfl)) fun B σ H ⟨g, env, hp, m, hg, S, fl, hp', ev, q⟩ => by
    refine ⟨g, hg, env, hp, m, S, (bindS_RR (r := evE reprL Y.Γ b env hp) ev q).imp (fun x h1 ev v H1 m1 S1 st1 r1 => ?_) fun _ _ _ _ x => x⟩
    split at ev
    · rename_i hL
      have q1 := q.step (SStep.of st1 (SameOwn.refl (env := env) (σ := σ)))
      cases x with
      | ref k =>
        have hk : ∃ xs, h1[k]? = some (.lst xs) := by
          simp only [isL] at hL
          split at hL
          · exact ⟨_, ‹_›⟩
          · cases hL
        obtain ⟨xs0, hk⟩ := hk
        cases r1 with
        | ref hm =>
          rename_i a
          obtain ⟨a', ws, z1, hws, _⟩ := S1.lstCell hk
          rw [hm] at z1
          cases z1
          refine ⟨.inl ⟨rfl, ws, .inl (.inl hws)⟩, g, hg, env, h1, m1, S1, (bindS_RR (r := evE reprL Y.Γ c env h1) ev q1).imp (fun d h2 ev v H2 m2 S2 st2 r2 => ?_) fun _ _ _ _ x => x⟩
          have hw : ∃ xs, h2[k]? = some (.lst xs) ∧ xs.length < LIM ∧ fl = .nx env ∧ hp' = h2.set k (.lst (xs ++ [d])) := by
            simp only at ev
            split at ev
            · rename_i xs hk
              split at ev
              · rename_i hl
                obtain ⟨z1, z2⟩ := rok_inj ev
                exact ⟨xs, hk, hl, z1.symm, z2.symm⟩
              · cases ev
            · cases ev
          obtain ⟨xs, hk, hl, rfl, rfl⟩ := hw
          obtain ⟨a', vs, k1, k2, k3⟩ := S2.lstCell hk
          rw [st2.get hm] at k1
          cases k1
          obtain ⟨S3, st3⟩ := S2.cellUpd hk (st2.get hm) (o' := .lst (vs ++ [v])) (d' := .lst (xs ++ [d])) ⟨_, rfl, k3.append (.cons r2 .nil)⟩
          refine ⟨_, vs, v, rfl, rfl, k2, by rw [k3.length, ← LIM_eq]; exact hl, ?_⟩
          exact q σ _ m2 S3 (SStep.of ((st1.trans st2).trans st3) SameOwn.refl)
      | _ => cases hL
    · cases ev
theorem s_app {i : Nat} {x : Str} {e : Expr} {c : E} {p apos cpos pos : Pos} (hN : X.N[i]? = some x) (hv : Vis X.env.scope x) (hd : (x == ("__debug__" : Str)) = false) (hcd : (x == ("__classdict__" : Str)) = false) (he : ∀ g : Gh, g.y = Y.y → PE X e (tE X.K Y g c)) (ns : notStar e = true)
    (hbase : attributeBase (.Name x p) "append" X.env (eval (.Name x p) X.env) = eval (.Name x p) X.env) (hline : (apos.endLine == cpos.line) = true)
    (hfew : ((backTo cpos (starEach [e] X.env)).all (fun x => !x.1) && (backToKw cpos (keywordEach [] X.env)).all (fun x => x.1.isSome) && decide ([e].length + ([] : List Keyword).length + (if ([] : List Keyword).isEmpty then 0 else 1) < 30)) = true) :
    PS X (.Expr (.Call (.Attribute (.Name x p) "append" apos) [e] [] cpos) pos) (tS X.K Y (.app i c)) :=
  psWeak (ps_expr (pe_bm PySem.F.plainAttrs_list PySem.F.slot_list_append PySem.F.type_list_append mt_append (pe_var hN hv hd hcd) (pa_cons (eg he) pa_nil (star_cons ns [] X.env)) hbase hfew hline (star_cons ns [] X.env) rfl)) fun B σ H ⟨g, env, hp, m, hg, S, fl, hp', ev, q⟩ => by
    have ev : (if isOL env[i]? then R.bindS (evE reprL Y.Γ c env hp) env fun d h => match env[i]? with
        | some (.own (.lst xs)) => if xs.length < LIM then rok (.nx (env.set i (.own (.lst (xs ++ [d]))))) h else none
        | _ => none
      else none) = some (.ok fl hp') := ev
    split at ev
    · rename_i hL
      have hk : ∃ xs, env[i]? = some (.own (.lst xs)) := by
        unfold isOL at hL
        split at hL
        · exact ⟨_, ‹_›⟩
        · cases hL
      obtain ⟨xs, hk⟩ := hk
      rw [hk] at ev
      obtain ⟨a, vs0, k1, k3, _⟩ := S.lstOwn hk
      refine ⟨_, k1, .inl ⟨rfl, vs0, .inl (.inl k3)⟩, g, hg, env, hp, m, S, (bindS_RR (r := evE reprL Y.Γ c env hp) ev q).imp (fun d h2 ev v H2 m2 S2 st2 r2 => ?_) fun _ _ _ _ x => x⟩
      have hw : xs.length < LIM ∧ fl = .nx (env.set i (.own (.lst (xs ++ [d])))) ∧ hp' = h2 := by
        simp only at ev
        split at ev
        · rename_i hl
          obtain ⟨z1, z2⟩ := rok_inj ev
          exact ⟨hl, z1.symm, z2.symm⟩
        · cases ev
      obtain ⟨hl, rfl, rfl⟩ := hw
      obtain ⟨a', vs, j1, j3, j4⟩ := S2.lstOwn hk
      rw [k1] at j1
      cases j1
      obtain ⟨S3, st3⟩ := S2.ownUpd hk k1 (o' := .lst (vs ++ [v])) (d' := .lst (xs ++ [d])) ⟨_, rfl, j4.append (.cons r2 .nil)⟩
      refine ⟨a, vs, v, rfl, rfl, j3, by rw [j4.length, ← LIM_eq]; exact hl, ?_⟩
      exact q σ _ m2 S3 ((SStep.of st2 SameOwn.refl).trans st3)
    · cases ev
theorem s_boxSet {o i e : Expr} {b ci c : E} {tpos pos : Pos} (ho : ∀ g : Gh, g.y = Y.y → PE X o (tE X.K Y g b)) (hi : ∀ g : Gh, g.y = Y.y → PE X i (tE X.K Y g ci)) (he : ∀ g : Gh, g.y = Y.y → PE X e (tE X.K Y g c))
    (ha : ∀ v, assign (.Subscript o i tpos) X.env v = (do
      let w0 ← holding [v] (eval o X.env)
      let w1 ← holding [v, w0] (eval i X.env)
      standAt tpos
      holding [v, w0, w1] (setItem w0 w1 v)
      release [v, w0, w1] []))
    (hs : swapsWithSole [.Subscript o i tpos] e pos.line X.env = pure false) (hw : swappedStores [.Subscript o i tpos] e X.env = pure none) (h1 : (assignEach [.Subscript o i tpos] X.env).map (·.2) = [assign (.Subscript o i tpos) X.env]) :
    PS X (.Assign [.Subscript o i tpos] e pos) (tS X.K Y (.boxSet b ci c)) :=
  psWeak (ps_asg (eg he) (pg_sub (eg ho) (eg hi) set_list ha) hs hw h1) fun B σ H ⟨g, env, hp, m, hg, S, fl, hp', ev, q⟩ => by
    refine ⟨g, hg, env, hp, m, S, (bindS_RR (r := evE reprL Y.Γ c env hp) ev q).imp (fun d h1 ev v H1 m1 S1 st1 r1 => ?_) fun _ _ _ _ x => x⟩
    have q1 := q.step (SStep.of st1 (SameOwn.refl (env := env) (σ := σ)))
    refine ⟨g, hg, env, h1, m1, S1, (bindS_RR (r := evE reprL Y.Γ b env h1) ev q1).imp (fun x h2 ev w H2 m2 S2 st2 r2 => ?_) fun _ _ _ _ x => x⟩
    have q2 := q1.step (SStep.of st2 (SameOwn.refl (env := env) (σ := σ)))
    refine ⟨g, hg, env, h2, m2, S2, (bindS_RR (r := evE reprL Y.Γ ci env h2) ev q2).imp (fun y h3 ev u H3 m3 S3 st3 r3 => ?_) fun _ _ _ _ x => x⟩
    have hw : ∃ k j xs n, x = .ref k ∧ y = .int j ∧ h3[k]? = some (.lst xs) ∧ Ev.ixN xs.length j = some n ∧ fl = .nx env ∧ hp' = h3.set k (.lst (xs.set n d)) := by
      cases x with
      | ref k =>
        cases y with
        | int j =>
          simp only at ev
          split at ev
          · rename_i xs hk
            split at ev
            · rename_i n hn
              obtain ⟨z1, z2⟩ := rok_inj ev
              exact ⟨k, j, xs, n, rfl, rfl, hk, hn, z1.symm, z2.symm⟩
            · cases ev
          · cases ev
        | _ => cases ev
      | _ => cases ev
    obtain ⟨k, j, xs, n, rfl, rfl, hk, hn, rfl, rfl⟩ := hw
    cases r3
    cases r2 with
    | ref hm =>
      rename_i a
      have hm3 := st3.get hm
      obtain ⟨a', vs, k1, k2, k3⟩ := S3.lstCell hk
      rw [hm3] at k1
      cases k1
      have r1' := (r1.step S1.at_m st2).step S2.at_m st3
      obtain ⟨S4, st4⟩ := S3.cellUpd hk hm3 (o' := .lst (vs.set n v)) (d' := .lst (xs.set n d)) ⟨_, rfl, k3.set n r1'⟩
      refine ⟨a, vs, j, n, rfl, rfl, k2, by rw [k3.length]; exact hn, ?_⟩
      exact q σ _ m3 S4 (SStep.of (((st1.trans st2).trans st3).trans st4) SameOwn.refl)
theorem s_setO {n : Nat} {x : Str} {i e : Expr} {ci c : E} {p tpos pos : Pos} (hN : X.N[n]? = some x) (hv : Vis X.env.scope x) (hd : (x == ("__debug__" : Str)) = false) (hcd : (x == ("__classdict__" : Str)) = false) (hi : ∀ g : Gh, g.y = Y.y → PE X i (tE X.K Y g ci)) (he : ∀ g : Gh, g.y = Y.y → PE X e (tE X.K Y g c))
    (ha : ∀ v, assign (.Subscript (.Name x p) i tpos) X.env v = (do
      let w0 ← holding [v] (eval (.Name x p) X.env)
      let w1 ← holding [v, w0] (eval i X.env)
      standAt tpos
      holding [v, w0, w1] (setItem w0 w1 v)
      release [v, w0, w1] []))
    (hs : swapsWithSole [.Subscript (.Name x p) i tpos] e pos.line X.env = pure false) (hw : swappedStores [.Subscript (.Name x p) i tpos] e X.env = pure none) (h1 : (assignEach [.Subscript (.Name x p) i tpos] X.env).map (·.2) = [assign (.Subscript (.Name x p) i tpos) X.env]) :
    PS X (.Assign [.Subscript (.Name x p) i tpos] e pos) (tS X.K Y (.setO n ci c)) :=
  psWeak (ps_asg (eg he) (pg_sub (pe_var hN hv hd hcd) (eg hi) set_list ha) hs hw h1) fun B σ H ⟨g, env, hp, m, hg, S, fl, hp', ev, q⟩ => by
    have ev : (if isOL env[n]? then R.bindS (evE reprL Y.Γ c env hp) env fun d h => R.bindS (evE reprL Y.Γ ci env h) env fun k h => match env[n]?, k with
        | some (.own (.lst xs)), .int k => match Ev.ixN xs.length k with
          | some j => rok (.nx (env.set n (.own (.lst (xs.set j d))))) h
          | none => none
        | _, _ => none
      else none) = some (.ok fl hp') := ev
    split at ev
    · rename_i hL
      have hk : ∃ xs, env[n]? = some (.own (.lst xs)) := by
        unfold isOL at hL
        split at hL
        · exact ⟨_, ‹_›⟩
        · cases hL
      obtain ⟨xs, hk⟩ := hk
      rw [hk] at ev
      obtain ⟨a, vs0, k1, k3, _⟩ := S.lstOwn hk
      refine ⟨g, hg, env, hp, m, S, (bindS_RR (r := evE reprL Y.Γ c env hp) ev q).imp (fun d h1 ev v H1 m1 S1 st1 r1 => ⟨_, k1, ?_⟩) fun _ _ _ _ x => x⟩
      have q1 := q.step (SStep.of st1 (SameOwn.refl (env := env) (σ := σ)))
      refine ⟨g, hg, env, h1, m1, S1, (bindS_RR (r := evE reprL Y.Γ ci env h1) ev q1).imp (fun y h3 ev u H3 m3 S3 st3 r3 => ?_) fun _ _ _ _ x => x⟩
      have hw : ∃ j k, y = .int j ∧ Ev.ixN xs.length j = some k ∧ fl = .nx (env.set n (.own (.lst (xs.set k d)))) ∧ hp' = h3 := by
        cases y with
        | int j =>
          simp only at ev
          split at ev
          · rename_i k hn
            obtain ⟨z1, z2⟩ := rok_inj ev
            exact ⟨j, k, rfl, hn, z1.symm, z2.symm⟩
          · cases ev
        | _ => cases ev
      obtain ⟨j, k, rfl, hn, rfl, rfl⟩ := hw
      cases r3
      obtain ⟨a', vs, j1, j3, j4⟩ := S3.lstOwn hk
      rw [k1] at j1
      cases j1
      have r1' := r1.step S1.at_m st3
      obtain ⟨S4, st4⟩ := S3.ownUpd hk k1 (o' := .lst (vs.set k v)) (d' := .lst (xs.set k d)) ⟨_, rfl, j4.set k r1'⟩
      refine ⟨a, vs, j, k, rfl, rfl, j3, by rw [j4.length]; exact hn, ?_⟩
      exact q σ _ m3 S4 ((SStep.of (st1.trans st3) SameOwn.refl).trans st4)
    · cases ev
/-! ### attributes -/
theorem look_rep {K : PySem.W.Frag} {Fb : Addr → Prop} {m : List Addr} {H : Hp} {f : Str} : ∀ {ns : List Str} {vs : List V} {ds : List D} {d : D}, RepL K Fb m H vs ds → look f ns ds = some d → ∃ v, (ns.zip vs).lookup f = some v ∧ Rep K Fb m H v d
  | n :: ns, v :: vs, e :: ds, d, .cons r t, h => by
    rw [look] at h
    rw [List.zip_cons_cons, List.lookup_cons]
    by_cases e : n = f
    · subst e
      rw [if_pos rfl] at h
      cases h
      exact ⟨v, by simp, r⟩
    · rw [if_neg e] at h
      obtain ⟨w, h1, h2⟩ := look_rep t h
      have : (f == n) = false := by simpa using fun z => e z.symm
      exact ⟨w, by rw [this]; exact h1, h2⟩
  | [], _, _, _, _, h => by simp [look] at h
  | _ :: _, [], _, _, .nil, h => by simp [look] at h
theorem put_rep {K : PySem.W.Frag} {Fb : Addr → Prop} {m : List Addr} {H : Hp} {f : Str} {y : V} {d : D} (ry : Rep K Fb m H y d) : ∀ {ns : List Str} {vs : List V} {ds : List D}, RepL K Fb m H vs ds → vs.length = ns.length →
    ∃ ws, putF f y (ns.zip vs) = (putD f d ns ds).1.zip ws ∧ ws.length = (putD f d ns ds).1.length ∧ RepL K Fb m H ws (putD f d ns ds).2
  | [], [], [], .nil, _ => ⟨[y], rfl, rfl, .cons ry .nil⟩
  | n :: ns, v :: vs, e :: ds, .cons r t, hl => by
    rw [List.zip_cons_cons, putF, putD]
    by_cases h : n = f
    · rw [if_pos h, if_pos h]
      exact ⟨y :: vs, rfl, by simpa using hl, .cons ry t⟩
    · rw [if_neg h, if_neg h]
      obtain ⟨ws, h1, h2, h3⟩ := put_rep ry t (by simpa using hl)
      exact ⟨v :: ws, by rw [h1]; rfl, by simp [h2], .cons r h3⟩
  | [], _ :: _, _, _, hl => by simp at hl
  | _ :: _, [], [], .nil, hl => by simp at hl
/-- what is known of a class's attribute -/
def AttrOk (K : PySem.W.Frag) (cs : List Nat) (f : Str) : Prop := ∀ c ∈ cs, Cls K (TabList.cls c) ∧ NoAttr K (TabList.cls c) f
theorem e_attr {o : Expr} {f : Str} {pos : Pos} {a : E} {cs : List Nat} (ha : PE X o (tV X.K Y g a)) (hb : attributeBase o f X.env (eval o X.env) = eval o X.env) (A : AttrOk X.K cs f) : PE X (.Attribute o f pos) (tE X.K Y g (.attr a cs f)) :=
  peWeak (pe_fld ha hb) fun σ H Q ⟨env, hp, m, S, ev⟩ => by
    have ev := RR.bind (r := evE reprL Y.Γ a env hp) ev
    refine ⟨env, hp, m, S, ev.imp (fun x h1 ev v H1 m1 S1 st1 r1 => ?_) fun _ _ _ _ x => x⟩
    obtain ⟨d, e3, q⟩ := ev.lift
    obtain ⟨x', d1, e3⟩ := Option.bind_eq_some_iff.mp e3
    have r := r1.v.cell S1 d1
    cases x' with
    | obj c ns ds =>
      have e3 : (if cs.contains c then look f ns ds else none) = some d := e3
      split at e3
      · rename_i hc
        obtain ⟨c1, c2⟩ := A c (by simpa using hc)
        have key : ∀ {a dx vs}, v = .ref a → H1 a = some (.ins (TabList.cls c) dx (ns.zip vs)) → RepL X.K (Fbd g env σ m1) m1 H1 vs ds → ∃ a C dx fs w, v = .ref a ∧ H1 a = some (.ins C dx fs) ∧ Cls X.K C ∧ NoAttr X.K C f ∧ fs.lookup f = some w ∧ Q w H1 := fun {a dx vs} e h r => by
          obtain ⟨w, h1, h2⟩ := look_rep r e3
          exact ⟨a, _, dx, _, w, e, h, c1, c2, h1, q w H1 m1 S1 st1 h2⟩
        cases r with
        | of r =>
          cases r with
          | obj h _ _ r => exact key rfl h r
        | obj h _ r => exact key rfl h r
      · cases e3
    | _ => cases e3
theorem s_setF {o value : Expr} {f : Str} {pos pos' : Pos} {b c : E} {cs : List Nat} (ho : ∀ g : Gh, g.y = Y.y → PE X o (tE X.K Y g b)) (he : ∀ g : Gh, g.y = Y.y → PE X value (tE X.K Y g c)) (A : AttrOk X.K cs f) (hs : swapsWith value (some (.Attribute o f pos')) pos.line X.env = pure false) :
    PS X (.Assign [.Attribute o f pos'] value pos) (tS X.K Y (.setF b cs f c)) :=
  psWeak (ps_fld (eg ho) (eg he) hs) fun B σ H ⟨g, env, hp, m, hg, S, fl, hp', ev, q⟩ => by
    refine ⟨g, hg, env, hp, m, S, (bindS_RR (r := evE reprL Y.Γ c env hp) ev q).imp (fun d h1 ev y H1 m1 S1 st1 r1 => ?_) fun _ _ _ _ x => x⟩
    have q1 := q.step (SStep.of st1 (SameOwn.refl (env := env) (σ := σ)))
    refine ⟨g, hg, env, h1, m1, S1, (bindS_RR (r := evE reprL Y.Γ b env h1) ev q1).imp (fun x h2 ev w H2 m2 S2 st2 r2 => ?_) fun _ _ _ _ x => x⟩
    have hw : ∃ k c ns ds, x = .ref k ∧ h2[k]? = some (.obj c ns ds) ∧ c ∈ cs ∧ ns.length < 900 ∧ fl = .nx env ∧ hp' = h2.set k (.obj c (putD f d ns ds).1 (putD f d ns ds).2) := by
      cases x with
      | ref k =>
        simp only at ev
        split at ev
        · rename_i c ns ds hk
          split at ev
          · rename_i hc
            rw [Bool.and_eq_true, decide_eq_true_eq] at hc
            obtain ⟨z1, z2⟩ := rok_inj ev
            exact ⟨k, c, ns, ds, rfl, hk, by simpa using hc.1, hc.2, z1.symm, z2.symm⟩
          · cases ev
        · cases ev
      | _ => cases ev
    obtain ⟨k, c, ns, ds, rfl, hk, hc, hl, rfl, rfl⟩ := hw
    cases r2 with
    | ref hm =>
      rename_i a
      obtain ⟨a', dx, vs, k1, k2, k3, k4⟩ := S2.objCell hk
      rw [hm] at k1
      cases k1
      obtain ⟨c1, c2⟩ := A c hc
      obtain ⟨ws, p1, p2, p3⟩ := put_rep (f := f) (r1.step S1.at_m st2) k4 k3
      obtain ⟨S3, st3⟩ := S2.cellUpd hk hm (o' := .ins (TabList.cls c) dx (putF f y (ns.zip vs))) (d' := .obj c (putD f d ns ds).1 (putD f d ns ds).2) ⟨dx, ws, by rw [p1], p2, p3⟩
      refine ⟨a, _, dx, _, rfl, k2, c1, c2, by rw [List.length_zip]; omega, ?_⟩
      exact q σ _ m2 S3 (SStep.of ((st1.trans st2).trans st3) SameOwn.refl)
end
end Ev
end

section
set_option Elab.async false
set_option linter.all false
set_option maxRecDepth 100000
namespace Ev
open PySem L2 PyProof.Rows
variable [TabList]
section
variable {K : PySem.W.Frag} {g : Gh} {env env' : Env} {hp hp' : Heap} {m m' : List Addr} {σ σ' : L2.St} {H H' : Hp}
/-- a guarded list grows -/
theorem StRel.updG {L : Addr} {xs ys : List V} (S : StRel K g env hp m σ H) (hL : H L = some (.lst xs)) (hpr : g.Pr L) (h0 : g.H0 L = none) (hm : L ∉ m) : StRel K g env hp m σ (upd H L (.lst ys)) := by
  have hf : Fbd g env σ m L := .inl hpr
  have fr : Free H L := .inr ⟨_, hL, trivial⟩
  refine ⟨S.len, fun j y hj => ?_, S.apart, S.cells, fun l ys h => ?_, S.nd, fun b h => ?_, fun b o h n nt => ?_, S.more, tabs_upd S.tabs fr, fun b h => has_upd (S.has b h)⟩
  · refine (S.slots j y hj).move rfl rfl rfl (fun _ _ r => r.updIn fr hf) (fun _ _ r => r.updIn fr hf) (fun d2 b u _ _ h2 _ _ h5 h6 => ?_) (fun b vs w h3 => h3.updIn (fun e _ => w (e ▸ h0)) (.inr hm)) fun b u h nd _ => by rw [upd_ne (fr.ne h nd)]; exact h
    have ne : b ≠ L := fun z => h6 (z ▸ hpr)
    exact ⟨by rw [upd_ne ne]; exact h2, h5, h6⟩
  · obtain ⟨b, u, h1, h2, h3⟩ := S.cell l ys h
    have ne : b ≠ L := fun z => hm (z ▸ List.mem_of_getElem? h1)
    exact ⟨b, u, h1, by rw [upd_ne ne]; exact h2, h3.imp fun _ _ r => r.updIn fr hf⟩
  · by_cases e : b = L
    · rw [e, upd_same]
      simp
    · rw [upd_ne e]
      exact S.pr b h
  · have ne : b ≠ L := fun z => by
      rw [z, h0] at h
      cases h
    rw [upd_ne ne]
    exact S.frame b o h n nt
theorem upd_self {L : Addr} {o : HO} (h : H L = some o) : upd H L o = H := by
  funext a
  by_cases e : a = L
  · rw [e, upd_same, h]
  · rw [upd_ne e]
theorem Step.updL {L : Addr} {o : HO} (s : Step m H m' H') (hL : H L = none) (hl : Free H' L) : Step m H m' (upd H' L o) := by
  refine ⟨s.more, fun a q h n nt => ?_, fun a q h => ?_, fun T t => tabs_upd (s.tabs T t) hl⟩
  · rw [upd_ne fun e => by rw [e, hL] at h; cases h]
    exact s.keep a q h n nt
  · rw [upd_ne fun e => by rw [e, hL] at h; cases h]
    exact s.there a q h
end
section
variable {Γ : Gm}
def lc2Turn (Γ : Gm) (elt : E) (cnd : List E) (vs : List Nat) (tg tg2 : Tg) (it2 : E) (cnd2 : List E) (env : Env) (x : D) (h : Heap) : R (List D) := match (clear env vs).bind (setTg tg x) with
  | none => none
  | some env => R.bind (evC reprL Γ cnd env h) fun b h => if b then R.bind (evE reprL Γ it2 env h) fun s h => match walk? s with
      | some xs => compLoop (lcTurn Γ elt cnd2 tg2.slots tg2 env) xs h
      | none => none
    else rok [] h
theorem RR.lc2 {elt it it2 : E} {tg tg2 : Tg} {cnd cnd2 : List E} {env : Env} {hp : Heap} {P : D → Heap → Prop} {Xr : Nat → List Str → List D → Heap → Prop} (ev : RR (evE reprL Γ (.lc2 elt tg it cnd tg2 it2 cnd2) env hp) P Xr) :
    RR (evE reprL Γ it env hp) (fun s h1 => ∃ xs ys h2, walk? s = some xs ∧ compLoop (lc2Turn Γ elt cnd (tg.slots ++ tg2.slots) tg tg2 it2 cnd2 env) xs h1 = some (.ok ys h2) ∧ ys.length ≤ LIM ∧ P (.lst ys) h2) Xr :=
  (RR.bind (r := evE reprL Γ it env hp) ev).imp (fun s h1 ev => by
    cases hw : walk? s with
    | none =>
      rw [hw] at ev
      exact ev.elim
    | some xs =>
      rw [hw] at ev
      obtain ⟨ys, h2, e, p⟩ := (RR.bind (r := calmly (compLoop (lc2Turn Γ elt cnd (tg.slots ++ tg2.slots) tg tg2 it2 cnd2 env) xs h1)) ev).calm
      split at p
      · rename_i hl
        exact ⟨xs, ys, h2, rfl, e, hl, p⟩
      · exact p.elim) fun _ _ _ _ x => x
theorem lc2Turn_ok {elt it2 : E} {cnd cnd2 : List E} {tg tg2 : Tg} {vs : List Nat} {env : Env} {x : D} {h h' : Heap} {o : List D} (e : lc2Turn Γ elt cnd vs tg tg2 it2 cnd2 env x h = some (.ok o h')) :
    ∃ env1 env2 b h1, clear env vs = some env1 ∧ setTg tg x env1 = some env2 ∧ evC reprL Γ cnd env2 h = some (.ok b h1) ∧
      (b = true → ∃ s h2 xs, evE reprL Γ it2 env2 h1 = some (.ok s h2) ∧ walk? s = some xs ∧ compLoop (lcTurn Γ elt cnd2 tg2.slots tg2 env2) xs h2 = some (.ok o h')) ∧ (b = false → o = [] ∧ h1 = h') := by
  unfold lc2Turn at e
  split at e
  · cases e
  · rename_i env2 he
    obtain ⟨env1, h1, h2⟩ := Option.bind_eq_some_iff.mp he
    obtain ⟨b, h3, e1, e⟩ := bind_some e
    refine ⟨env1, env2, b, h3, h1, h2, e1, fun hb => ?_, fun hb => ?_⟩
    · subst hb
      obtain ⟨s, h4, e2, e⟩ := bind_some (show R.bind (evE reprL Γ it2 env2 h3) _ = _ from e)
      cases hw : walk? s with
      | none =>
        rw [hw] at e
        cases e
      | some xs =>
        rw [hw] at e
        exact ⟨s, h4, xs, e2, hw, e⟩
    · subst hb
      obtain ⟨rfl, rfl⟩ := rok_inj (show some (Out.ok [] h3) = some (.ok o h') from e)
      exact ⟨rfl, rfl⟩
end
section
variable {X : Cx} {Y : Yd} {g : Gh}
theorem lc2_reads {elt it it2 : E} {tg tg2 : Tg} {cnd cnd2 : List E} {σ : L2.St} {H : Hp} {Q : VK} (hg : g.y = Y.y) (q : tF X.K Y g (.lc2 elt tg it cnd tg2 it2 cnd2) σ H Q) :
    tLc2 (tI X.K Y g false it) (gT X.K tg) (tCg X.K Y.calm cnd) (tIg X.K Y.calm false it2) (gT X.K tg2) (tCg X.K Y.calm cnd2) (tEg X.K Y.calm elt) (tg.slots ++ tg2.slots) tg2.slots σ H Q := by
  obtain ⟨env, hp, m, S, ev⟩ := q
  refine ⟨env, hp, m, S, ev.lc2.imp (fun s h1 ev => ?_) fun _ _ _ _ x => x⟩
  obtain ⟨xs, ys, hp', hw, e2, hys, _, q⟩ := ev
  refine ⟨xs, hw, fun J ok H1 m1 S1 st1 wk ok1 hlen L hL => ?_⟩
  have hm1 : L ∉ m1 := fun z => by
    obtain ⟨vs, h, _⟩ := S1.at_m _ z
    rw [hL] at h
    cases h
  have h0L : g.H0 L = none := (S1.new hL).1
  refine ⟨fun i μ H2 => μ = xs.length - i ∧ i ≤ xs.length ∧ ∃ h2 m2 acc vacc rest, StRel X.K (g.guard L) env h2 m2 σ H2 ∧ Step m1 H1 m2 H2 ∧ L ∉ m2 ∧ H2 L = some (.lst vacc) ∧ RepL X.K (Fbd (g.guard L) env σ m2) m2 H2 vacc acc ∧
    compLoop (lc2Turn Y.Γ elt cnd (tg.slots ++ tg2.slots) tg tg2 it2 cnd2 env) (xs.drop i) h2 = some (.ok rest hp') ∧ ys = acc ++ rest, ⟨xs.length, ?_⟩, ?_⟩
  · exact ⟨by simp, Nat.zero_le _, h1, m1, [], [], ys, S1.startG hL, Step.ext (Evl.Ex.new hL), hm1, upd_same .., .nil, e2, rfl⟩
  · rintro i μ H2 ⟨rfl, hi, h2, m2, acc, vacc, rest, S2, st2, hm2, hL2, racc, e3, ha⟩
    have ok2 : ok (g.guard L) env σ m2 H2 := wk.grd g env h1 σ m1 H1 L m2 H2 S1 hL st2 ok1
    by_cases hlt : i < xs.length
    · refine .inr ?_
      obtain ⟨go, yl⟩ := wk.go (g.guard L) env h2 σ m2 H2 i S2 ok2 hlt
      refine ⟨go, fun H' => i + 1 ≤ xs.length ∧ ∃ h2 m2 acc vacc rest, StRel X.K (g.guard L) env h2 m2 σ H' ∧ Step m1 H1 m2 H' ∧ L ∉ m2 ∧ H' L = some (.lst vacc) ∧ RepL X.K (Fbd (g.guard L) env σ m2) m2 H' vacc acc ∧
          compLoop (lc2Turn Y.Γ elt cnd (tg.slots ++ tg2.slots) tg tg2 it2 cnd2 env) (xs.drop (i + 1)) h2 = some (.ok rest hp') ∧ ys = acc ++ rest,
        fun H' h => ⟨xs.length - (i + 1), by omega, rfl, h⟩, fun x H3 y => ?_⟩
      obtain ⟨ex3, d, hd, rx⟩ := yl x H3 y
      have hdrop : xs.drop i = d :: xs.drop (i + 1) := by
        obtain ⟨hl, rfl⟩ := List.getElem?_eq_some_iff.mp hd
        exact List.drop_eq_getElem_cons hl
      rw [hdrop] at e3
      obtain ⟨o, h3, rest', e4, e5, rfl⟩ := compLoop_cons e3
      obtain ⟨env1, env2, b, h4, c1, c2, c3, kt, kf⟩ := lc2Turn_ok e4
      have S3 : StRel X.K (g.guard L) env h2 m2 σ H3 := S2.ext ex3
      obtain ⟨S4, so4⟩ := clear_rel S3 c1
      refine ⟨g.guard L, env1, h2, m2, d, env2, S4, by rw [so4.fbd]; exact rx, c2, fun σ5 S5 so5 k5 l5 => ⟨wipe_same (by rw [l5, wipe_length]) fun j hj => k5 j fun z => hj (List.mem_append_left _ z), ?_⟩⟩
      refine ⟨g.guard L, hg, env2, h2, m2, S5, .of c3 fun H6 m6 S6 st6 => ?_⟩
      have so : SameOwn env σ env2 σ5 := so4.trans so5
      have stA : Step m1 H1 m2 H3 := st2.trans (Step.ext ex3)
      have hL3 : H3 L = some (.lst vacc) := ex3 _ _ hL2
      have racc3 : RepL X.K (Fbd (g.guard L) env σ m2) m2 H3 vacc acc := racc.ext ex3
      have at3 : Cellar m2 H3 := S3.at_m
      cases b with
      | false =>
        refine iteF ?_
        obtain ⟨rfl, rfl⟩ := kf rfl
        have S6' : StRel X.K (g.guard L) env h4 m6 σ H6 := S3.back S6 so st6
        exact ⟨hlt, h4, m6, acc, vacc, rest', S6', stA.trans st6, st6.off hL3 hm2, st6.keep _ _ hL3 hm2, racc3.step at3 st6, e5, ha⟩
      | true =>
        refine iteT ?_
        obtain ⟨s', h5, xs', f1, f2, f3⟩ := kt rfl
        refine ⟨g.guard L, hg, env2, h4, m6, S6, .of f1 ⟨xs', f2, fun J1 ok1' H7 m7 S7 st7 wk1 ok7 _ => ?_⟩⟩
        have stB : Step m2 H3 m7 H7 := st6.trans st7
        have base : ∃ h8 m8 acc8 vacc8 rest8, StRel X.K (g.guard L) env2 h8 m8 σ5 H7 ∧ ok1' (g.guard L) env2 σ5 m8 H7 ∧ Step m1 H1 m8 H7 ∧ L ∉ m8 ∧ H7 L = some (.lst vacc8) ∧ RepL X.K (Fbd (g.guard L) env2 σ5 m8) m8 H7 vacc8 acc8 ∧
            compLoop (lcTurn Y.Γ elt cnd2 tg2.slots tg2 env2) (xs'.drop 0) h8 = some (.ok rest8 h3) ∧ ys = acc8 ++ (rest8 ++ rest') := by
          refine ⟨h5, m7, acc, vacc, o, S7, ok7, stA.trans stB, stB.off hL3 hm2, stB.keep _ _ hL3 hm2, ?_, f3, ha⟩
          rw [so.fbd]
          exact racc3.step at3 stB
        refine ⟨fun j ν H8 => ν = xs'.length - j ∧ j ≤ xs'.length ∧ ∃ h8 m8 acc8 vacc8 rest8, StRel X.K (g.guard L) env2 h8 m8 σ5 H8 ∧ ok1' (g.guard L) env2 σ5 m8 H8 ∧ Step m1 H1 m8 H8 ∧ L ∉ m8 ∧ H8 L = some (.lst vacc8) ∧ RepL X.K (Fbd (g.guard L) env2 σ5 m8) m8 H8 vacc8 acc8 ∧
            compLoop (lcTurn Y.Γ elt cnd2 tg2.slots tg2 env2) (xs'.drop j) h8 = some (.ok rest8 h3) ∧ ys = acc8 ++ (rest8 ++ rest'), ⟨xs'.length, by simp, Nat.zero_le _, base⟩, ?_⟩
        rintro j ν H8 ⟨rfl, hj, h8, m8, acc8, vacc8, rest8, S8, ok8, st8, hm8, hL8, racc8, e8, ha8⟩
        by_cases hlt' : j < xs'.length
        · refine .inr ?_
          obtain ⟨go1, yl1⟩ := wk1.go (g.guard L) env2 h8 σ5 m8 H8 j S8 ok8 hlt'
          refine ⟨go1, fun H' => j + 1 ≤ xs'.length ∧ ∃ h8 m8 acc8 vacc8 rest8, StRel X.K (g.guard L) env2 h8 m8 σ5 H' ∧ ok1' (g.guard L) env2 σ5 m8 H' ∧ Step m1 H1 m8 H' ∧ L ∉ m8 ∧ H' L = some (.lst vacc8) ∧ RepL X.K (Fbd (g.guard L) env2 σ5 m8) m8 H' vacc8 acc8 ∧
              compLoop (lcTurn Y.Γ elt cnd2 tg2.slots tg2 env2) (xs'.drop (j + 1)) h8 = some (.ok rest8 h3) ∧ ys = acc8 ++ (rest8 ++ rest'), fun H' h => ⟨xs'.length - (j + 1), by omega, rfl, h⟩, fun x' H9 y' => ?_⟩
          obtain ⟨ex9, d', hd', rx'⟩ := yl1 x' H9 y'
          have hdrop' : xs'.drop j = d' :: xs'.drop (j + 1) := by
            obtain ⟨hl, rfl⟩ := List.getElem?_eq_some_iff.mp hd'
            exact List.drop_eq_getElem_cons hl
          rw [hdrop'] at e8
          obtain ⟨o', h9, rest9, e9, e10, rfl⟩ := compLoop_cons e8
          obtain ⟨env3, env4, b', h10, c4, c5, c6, kt', kf'⟩ := lcTurn_ok e9
          have S9 : StRel X.K (g.guard L) env2 h8 m8 σ5 H9 := S8.ext ex9
          obtain ⟨S10, so10⟩ := clear_rel S9 c4
          refine ⟨g.guard L, env3, h8, m8, d', env4, S10, by rw [so10.fbd]; exact rx', c5, fun σ11 S11 so11 k11 l11 => ⟨wipe_same (by rw [l11, wipe_length]) k11, ?_⟩⟩
          refine ⟨g.guard L, hg, env4, h8, m8, S11, .of c6 fun H12 m12 S12 st12 => ?_⟩
          have so' : SameOwn env2 σ5 env4 σ11 := so10.trans so11
          have stC : Step m1 H1 m8 H9 := st8.trans (Step.ext ex9)
          have stD : Step m8 H8 m12 H12 := (Step.ext ex9).trans st12
          have hL9 : H9 L = some (.lst vacc8) := ex9 _ _ hL8
          have racc9 : RepL X.K (Fbd (g.guard L) env2 σ5 m8) m8 H9 vacc8 acc8 := racc8.ext ex9
          have at9 : Cellar m8 H9 := S9.at_m
          cases b' with
          | false =>
            refine iteF ?_
            obtain ⟨rfl, rfl⟩ := kf' rfl
            have S12' : StRel X.K (g.guard L) env2 h10 m12 σ5 H12 := S9.back S12 so' st12
            exact ⟨hlt', h10, m12, acc8, vacc8, rest9, S12', wk1.keep _ env2 h8 σ5 m8 H8 env2 σ5 m12 H12 S8 ⟨stD, SameOwn.refl⟩ ok8, stC.trans st12, st12.off hL9 hm8, st12.keep _ _ hL9 hm8, racc9.step at9 st12, e10, ha8⟩
          | true =>
            refine iteT ?_
            obtain ⟨y, e11, rfl⟩ := kt' rfl
            refine ⟨g.guard L, hg, env4, h10, m12, S12, .of e11 fun v H13 m13 S13 st13 r13 => ?_⟩
            have stE : Step m8 H9 m13 H13 := st12.trans st13
            have hL13 : H13 L = some (.lst vacc8) := stE.keep _ _ hL9 hm8
            have hm13 : L ∉ m13 := stE.off hL9 hm8
            have racc13 : RepL X.K (Fbd (g.guard L) env2 σ5 m13) m13 H13 vacc8 acc8 := racc9.step at9 stE
            have S13' : StRel X.K (g.guard L) env2 h9 m13 σ5 H13 := S9.back S13 so' stE
            have ok13 : ok1' (g.guard L) env2 σ5 m13 H13 := wk1.keep _ env2 h8 σ5 m8 H8 env2 σ5 m13 H13 S8 ⟨(Step.ext ex9).trans stE, SameOwn.refl⟩ ok8
            have hf : Fbd (g.guard L) env2 σ5 m13 L := .inl (.inr rfl)
            have r13' : RepL X.K (Fbd (g.guard L) env2 σ5 m13) m13 H13 [v] [y] := by
              rw [so'.fbd] at r13
              exact .cons r13 .nil
            have hl8 : acc8.length < LIM := by
              have : ys.length = (acc8 ++ ([y] ++ rest9 ++ rest')).length := by rw [ha8]
              simp only [List.length_append, List.length_cons, List.length_nil] at this
              omega
            refine ⟨vacc8, hL13, by rw [← LIM_eq, racc13.length]; exact hl8, hlt', h9, m13, acc8 ++ [y], vacc8 ++ [v], rest9, S13'.updG hL13 (.inr rfl) h0L hm13, wk1.grow _ _ _ _ _ L _ _ (.inr rfl) h0L hL13 ok13, (stC.trans stE).updL hL (.inr ⟨_, hL13, trivial⟩), hm13, upd_same .., ?_, e10, by rw [ha8]; simp⟩
            exact (racc13.updIn (.inr ⟨_, hL13, trivial⟩) hf).append (r13'.updIn (.inr ⟨_, hL13, trivial⟩) hf)
        · have hj' : j = xs'.length := by omega
          subst hj'
          refine .inl ⟨wk1.stop _ _ _ _ _ ok8, hlt, h8, m8, acc8, vacc8, rest', ?_, st8, hm8, hL8, ?_, ?_, ?_⟩
          · have := S1.backG (xs := vacc8) hL S8 so (st8.updL hL (.inr ⟨_, hL8, trivial⟩)) ⟨_, hL8⟩ hm8
            rw [upd_self hL8] at this
            exact this
          · rw [so.fbd] at racc8
            exact racc8
          · rw [List.drop_length] at e8
            obtain ⟨z1, z2⟩ := rok_inj (show some (Out.ok [] h8) = some (.ok rest8 h3) from e8)
            rw [z2]
            exact e5
          · rw [List.drop_length] at e8
            obtain ⟨rfl, _⟩ := rok_inj (show some (Out.ok [] h8) = some (.ok rest8 h3) from e8)
            exact ha8
    · have hi' : i = xs.length := by omega
      subst hi'
      refine .inl ⟨wk.stop _ _ _ _ _ ok2, ?_⟩
      rw [List.drop_length] at e3
      obtain ⟨rfl, rfl⟩ := rok_inj (show some (Out.ok [] h2) = some (.ok rest hp') from e3)
      rw [List.append_nil] at ha
      subst ha
      exact q L _ _ m2 (st1.fresh hL) S2 (st1.trans st2) hm2 hL2 ⟨_, rfl, racc⟩
theorem lc2_lst {Γ : Gm} {c it it2 : E} {cnd cnd2 : List E} {t t2 : Tg} : ∀ env hp d hp', evE reprL Γ (.lc2 c t it cnd t2 it2 cnd2) env hp = some (.ok d hp') → ownable d = true := fun env hp d hp' ev => by
  have key : ∀ {P : D → Heap → Prop}, RR (evE reprL Γ (.lc2 c t it cnd t2 it2 cnd2) env hp) P (fun _ _ _ _ => False) → ∃ ys h, P (.lst ys) h := fun {P} h => by
    have h := h.lc2
    cases q : evE reprL Γ it env hp with
    | none =>
      rw [q] at h
      exact h.elim
    | some o => cases o with
      | err _ _ _ _ =>
        rw [q] at h
        exact h.elim
      | ok s h1 =>
        rw [q] at h
        obtain ⟨_, ys, h2, _, _, _, p⟩ := h
        exact ⟨ys, h2, p⟩
  obtain ⟨ys, h, e⟩ := key (P := fun d2 h2 => d2 = d) (by rw [ev]; rfl)
  subst e
  rfl
theorem rev_own {Γ : Gm} {c : E} {env : Env} {hp hp' : Heap} {d : D} (ev : evE reprL Γ (.op1 .rev c) env hp = some (.ok d hp')) : (∃ xs, d = .lst xs) ∨ ∃ xs, d = .tup xs := by
  obtain ⟨x, h1, e1, ev⟩ := bind_some (show R.bind (evE reprL Γ c env hp) _ = _ from ev)
  obtain ⟨e3, _⟩ := lift_ok ev
  obtain ⟨x', d1, e3⟩ := Option.bind_eq_some_iff.mp e3
  cases x' <;> simp only [o1, reduceCtorEq, Option.some.injEq] at e3
  · exact .inr ⟨_, e3.symm⟩
  · exact .inl ⟨_, e3.symm⟩
theorem f_rev {e : Expr} {c : E} {k : Nat} {p1 p2 p3 pos : Pos} (he : PE X e (tV X.K Y g c)) : PE X (.Subscript e (.Slice none none (some (.UnaryOp .USub (.Constant (.int 1) k p1) p2)) p3) pos) (tF X.K Y g (.op1 .rev c)) :=
  peWeak (pe_rev0 he) fun σ H Q ⟨env, hp, m, S, ev⟩ => by
    have ev := RR.bind (r := evE reprL Y.Γ c env hp) ev
    refine ⟨env, hp, m, S, ev.imp (fun x h1 ev v H1 m1 S1 st1 r1 => ?_) fun _ _ _ _ x => x⟩
    obtain ⟨d, e3, hd, q⟩ := ev.lift
    obtain ⟨x', d1, ho⟩ := Option.bind_eq_some_iff.mp e3
    refine ⟨Fbd g env σ m1, m1, x', _, S1.fb, r1.v.cell S1 d1, ho, fun p ws es np rl => ⟨fun e => ?_, fun e => ?_⟩⟩
    · subst e
      cases hd
    · subst e
      refine q p _ _ m1 (st1.fresh np) (S1.startG np) (st1.trans (Step.ext (Evl.Ex.new np))) (fun z => ?_) (upd_same ..) ⟨_, rfl, rl.upd (.inl np) fun b us hb _ _ e => ?_⟩
      · obtain ⟨us, hw, _⟩ := S1.at_m _ z
        rw [np] at hw
        cases hw
      · rw [e, np] at hb
        cases hb
end
end Ev
end

section
set_option Elab.async false
set_option linter.all false
set_option maxRecDepth 100000
namespace Ev
open PySem PySem.Spec L2 PyProof.Rows
variable [TabList]
/-! ### what a def promises; q: where no repr is under way -/
structure FnG (P : Program) (w : World) (K : PySem.W.Frag) (mg : Str → Option Value) (base : PySem.Heap) (CX : CXT) (q : Bool) (k : Nat) (f : Addr) (fd : FuncData) (ps : List Str) (sp : Sp) : Prop where
  len : ∀ vs M Q W, sp vs M Q W → vs.length = ps.length
  run : ∀ (B : Around) (frs : List PySem.Env) (t : Shared) (M : Hp) (args : Args) (us : List Value) (vs : List V) (Q : VK) (W : XK), Room k B → (q = true → B.guards = some []) → Env0 P w K mg base B frs t M →
    BindsTo t fd args (ps.zip us) → Vals vs us → sp vs M Q W → codeAny (model P w) B (.call (.ref f) args) (CR CX frs P w M t Q W) t
section
variable {P : Program} {w : World} {K : PySem.W.Frag} {mg : Str → Option Value} {base : PySem.Heap} {CX : CXT} {q : Bool} {j k : Nat} {f : Addr} {fd : FuncData} {ps : List Str} {sp : Sp}
theorem FnG.mono (F : FnG P w K mg base CX q j f fd ps sp) (h : j ≤ k) : FnG P w K mg base CX q k f fd ps sp :=
  ⟨F.len, fun B frs t M args us vs Q W room => F.run B frs t M args us vs Q W (room.mono h)⟩
/-- a def by its body -/
theorem fnG_of {name qual : Str} {st : Stmt} {N : List Str} (F : Fun K name qual st f fd) (sc : FnScope N ps (defScope st)) (len : ∀ vs M Q W, sp vs M Q W → vs.length = ps.length)
    (hbody : ∀ (B : Around) (frs : List PySem.Env) (t : Shared) (M : Hp) (vs : List V) (Q : VK) (W : XK), Room k (B.deeper (envOfC qual (defScope st) t.heap.objs.size f fd.code)) → (q = true → (B.deeper (envOfC qual (defScope st) t.heap.objs.size f fd.code)).guards = some []) →
      sp vs M Q W → ∃ r, PSs (cxOf CX P w K mg base N qual (defScope st) f fd.code B frs t M W) (defBody st) r ∧ r { nx := fun _ M' => Q .non M', rt := Q } (start N vs) M) :
    FnG P w K mg base CX q (k + 1) f fd ps sp := by
  obtain ⟨oc, od, kV, doc, pm, an, cd, ct, osl, rfl, lk, hcd⟩ := F.ex
  refine ⟨len, fun B frs t M args us vs Q W room hgu e0 hb rv hsp => ?_⟩
  have there : K.In t.heap := e0.mod.kin.keeps fun b o e => (e0.bs b o e).1
  have kinds : ∀ y ∈ ps.zip us, (defScope st).names.lookup y.1 = some .local ∨ ((defScope st).names.lookup y.1 = some .cell ∧ ((cellsFrom (t.heap.objs.size + 1) (defScope st).names []).lookup y.1).isSome = true) := by
    rintro ⟨y, u⟩ hy
    refine (sc.par y (List.of_mem_zip hy).1).imp id fun c => ⟨c, ?_⟩
    exact PySem.W.cellsFrom_some _ _ _ (.inl c)
  refine codeAny_call_function room.depth (there _ _ lk) rfl sc.co sc.gen rfl (PySem.W.codeRec_of there hcd) (hb _ _ _ _ ?_)
  refine wpAny_newFunctionEnv_cells sc.kind kinds fun env he t1 inn => ?_
  subst he
  refine ⟨(e0.mod.nolimit.keeps fun b o e => (e0.bs b o e).1).keeps inn.toInCall.keep, codeAny_func ?_⟩
  obtain ⟨r, hr, hq⟩ := hbody B frs t M vs Q W (room.deeper _) (fun z => by show B.guards = _; exact hgu z) hsp
  have I := inv_start (CX := CX) (E := W) sc room.hd e0 (len _ _ _ _ hsp) rv inn
  refine wpAny_mono (hr.run [] t1 (start N vs) M _ I hq) (fun fl t2 done => ?_) fun e t2 done => done
  cases fl with
  | brk =>
    obtain ⟨_, _, _, z⟩ := done
    exact z.elim
  | cont =>
    obtain ⟨_, _, _, z⟩ := done
    exact z.elim
  | next =>
    obtain ⟨_, M', J, z⟩ := done
    exact ⟨.non, M', J.os, J.bare, J.base, J.hok, rfl, z⟩
  | ret u =>
    obtain ⟨v, _, M', J, rel, z⟩ := done
    exact ⟨v, M', J.os, J.bare, J.base, J.hok, rel, z⟩
end
section
variable {X : Cx} {CX : CXT} {q : Bool} {k : Nat} {f : Addr} {fd : FuncData} {ps ks : List Str} {sp : Sp} {E : L2.St → XK} {x : Str} {p pos : Pos} {e : Expr} {es : List Expr} {kws : List Keyword} {t tk : TA}
/-- a call of the def at f that gives it us, by whatever binding: its contract tells the value -/
theorem runG {pins : List (Addr × Obj)} {σ : L2.St} {H : Hp} {s : Shared} {Q : VK} {us : List Value} {vs : List V} {args : Args} (F : FnG X.prog X.w X.K X.mg X.base CX q k f fd ps sp) (room : Room k X.A) (quiet : q = true → X.A.guards = some []) (up : ∀ σ, PassesAt CX X σ (E σ))
    (I : Inv X pins σ H s) (bound : BindsTo s fd args (ps.zip us)) (same : Vals vs us) (told : sp vs H Q (E σ)) : wpAny (model X.prog X.w) X.A (call (.ref f) args.pos args.kw) (EP X pins σ Q) X.xe s :=
  wpAny_call (codeAny_mono (F.run X.A X.stack s H args us vs Q (E σ) room quiet I.env0 bound same told) fun
    | .error e, z, raised => up σ pins H s e z I raised
    | .ok (.ret _), _, done => I.after done
    | .ok .next, _, no | .ok .brk, _, no | .ok .cont, _, no => no)
theorem callG {pins : List (Addr × Obj)} {σ : L2.St} {H : Hp} {s : Shared} {Q : VK} {us : List Value} {vs : List V} (F : FnG X.prog X.w X.K X.mg X.base CX q k f fd ps sp) (room : Room k X.A) (quiet : q = true → X.A.guards = some []) (up : ∀ σ, PassesAt CX X σ (E σ)) (binds : Binds X.K fd ps [])
    (I : Inv X pins σ H s) (same : Vals vs us) (told : sp vs H Q (E σ)) : wpAny (model X.prog X.w) X.A (call (.ref f) us) (EP X pins σ Q) X.xe s := by
  have n : us.length = ps.length := same.length ▸ F.len _ _ _ _ told
  have bound := binds s us I.kIn ((List.append_nil us).symm ▸ n)
  simp only [List.append_nil] at bound
  exact runG (args := ⟨us, []⟩) F room quiet up I bound same told
theorem pe_callG (F : FnG X.prog X.w X.K X.mg X.base CX q k f fd ps sp) (room : Room k X.A) (quiet : q = true → X.A.guards = some []) (up : ∀ σ, PassesAt CX X σ (E σ)) (global : Gl X x) (here : X.mg x = some (.ref f)) (kept : PySem.W.keepIn X.K (.ref f) = true) (binds : Binds X.K fd ps [])
    (args : PA X (e :: es) t) (plain : (x == ("__debug__" : Str)) = false) (first : starEach (e :: es) X.env = (false, eval e X.env) :: starEach es X.env) (no_star : (backTo pos (starEach es X.env)).any (·.1) = false) :
    PE X (.Call (.Name x p) (e :: es) [] pos) fun σ H Q => t σ H fun vs H1 => sp vs H1 Q (E σ) where
  run pins s σ H Q I told := by
    have made := thn (args.run pos pins s σ H _ I told) (Q' := fun us z => X.K.In z.heap ∧ wpAny (model X.prog X.w) X.A (call (.ref f) us) (EP X pins σ Q) X.xe z) fun us z ⟨vs, H1, J, same, q⟩ => ⟨J.kIn, callG F room quiet up binds J same q⟩
    exact wpAny_Call_Name_kw (ld_glob I global here (PySem.W.callWith_K (h₀ := X.base) I.ok.mod.kin kept made first no_star) plain)
theorem pe_callG0 (F : FnG X.prog X.w X.K X.mg X.base CX q k f fd ps sp) (room : Room k X.A) (quiet : q = true → X.A.guards = some []) (up : ∀ σ, PassesAt CX X σ (E σ)) (global : Gl X x) (here : X.mg x = some (.ref f)) (kept : PySem.W.keepIn X.K (.ref f) = true) (binds : Binds X.K fd ps [])
    (plain : (x == ("__debug__" : Str)) = false) : PE X (.Call (.Name x p) [] [] pos) fun σ H Q => sp [] H Q (E σ) where
  run pins s σ H Q I told := wpAny_Call_Name_kw (ld_glob I global here (PySem.W.callWith_K0 I.kIn kept (callG (us := []) F room quiet up binds I .nil told)) plain)
/-- the values of a call, by position and by keyword, in the parameters' order -/
structure KB (K : PySem.W.Frag) (fd : FuncData) (ps : List Str) (n : Nat) (ks : List Str) (perm : List Nat) : Prop where
  to : ∀ (s : Shared) (us ws ys : List Value), K.In s.heap → us.length = n → ws.length = ks.length → perm.mapM ((us ++ ws)[·]?) = some ys → BindsTo s fd ⟨us, ks.zip ws⟩ (ps.zip ys)
theorem mapM_get {α β : Type} {R : α → β → Prop} {as : List α} {bs : List β} (h : ∀ (i : Nat) a, as[i]? = some a → ∃ b, bs[i]? = some b ∧ R a b) : ∀ {perm : List Nat} {xs : List α}, perm.mapM (as[·]?) = some xs →
    ∃ ys, perm.mapM (bs[·]?) = some ys ∧ xs.length = ys.length ∧ ∀ (i : Nat) x, xs[i]? = some x → ∃ y, ys[i]? = some y ∧ R x y
  | [], xs, e => by
    simp only [List.mapM_nil] at e
    obtain rfl := Option.some.inj e
    exact ⟨[], rfl, rfl, fun i x hx => by simp at hx⟩
  | i :: perm, xs, e => by
    rw [List.mapM_cons] at e
    obtain ⟨a, ha, e⟩ := Option.bind_eq_some_iff.mp e
    obtain ⟨xs', hx, e⟩ := Option.bind_eq_some_iff.mp e
    obtain rfl := Option.some.inj e
    obtain ⟨b, hb, r⟩ := h i a ha
    obtain ⟨ys, hy, hl, rs⟩ := mapM_get h hx
    refine ⟨b :: ys, by rw [List.mapM_cons, hb, hy]; rfl, by simp [hl], fun j x hx => ?_⟩
    cases j with
    | zero =>
      obtain rfl := Option.some.inj hx
      exact ⟨b, rfl, r⟩
    | succ j => exact rs j x hx
theorem vals_of {vs : List V} {us : List Value} (hl : vs.length = us.length) (h : ∀ (i : Nat) v, vs[i]? = some v → ∃ u, us[i]? = some u ∧ RelV v u) : Vals vs us := by
  induction vs generalizing us with
  | nil =>
    cases us with
    | nil => exact .nil
    | cons _ _ => cases hl
  | cons v vs ih =>
    cases us with
    | nil => cases hl
    | cons u us =>
      obtain ⟨u', e, r⟩ := h 0 v rfl
      obtain rfl := Option.some.inj e
      exact .cons r (ih (by simpa using hl) fun i v hv => h (i + 1) v hv)
theorem callKG {pins : List (Addr × Obj)} {σ : L2.St} {H : Hp} {s : Shared} {Q : VK} {us ws : List Value} {vs zs xs : List V} {n : Nat} {perm : List Nat} (F : FnG X.prog X.w X.K X.mg X.base CX q k f fd ps sp) (room : Room k X.A) (quiet : q = true → X.A.guards = some []) (up : ∀ σ, PassesAt CX X σ (E σ)) (binds : KB X.K fd ps n ks perm)
    (I : Inv X pins σ H s) (rv : Vals vs us) (rz : Vals zs ws) (l1 : vs.length = n) (l2 : zs.length = ks.length) (order : perm.mapM ((vs ++ zs)[·]?) = some xs) (told : sp xs H Q (E σ)) : wpAny (model X.prog X.w) X.A (call (.ref f) us (ks.zip ws)) (EP X pins σ Q) X.xe s := by
  obtain ⟨ys, hy, same, each⟩ := mapM_get (bs := us ++ ws) (R := fun v u => RelV v u) (fun i a ha => (rv.append rz).get ha) order
  have bound := binds.to s us ws ys I.kIn (rv.length ▸ l1) (rz.length ▸ l2) hy
  exact runG (args := ⟨us, ks.zip ws⟩) F room quiet up I bound (vals_of same each) told
/-- what has to be so of keywords in a call -/
structure Keywords (X : Cx) (pos : Pos) (kws : List Keyword) (ks : List Str) : Prop where
  named : (backToKw pos (keywordEach kws X.env)).all (·.1.isSome) = true
  names : (backToKw pos (keywordEach kws X.env)).filterMap (·.1) = ks
theorem pe_callKG {n : Nat} {perm : List Nat} (F : FnG X.prog X.w X.K X.mg X.base CX q k f fd ps sp) (room : Room k X.A) (quiet : q = true → X.A.guards = some []) (up : ∀ σ, PassesAt CX X σ (E σ)) (global : Gl X x) (here : X.mg x = some (.ref f)) (kept : PySem.W.keepIn X.K (.ref f) = true) (binds : KB X.K fd ps n ks perm)
    (args : PA X (e :: es) t) (more : PK X kws tk) (kw : Keywords X pos kws ks) (plain : (x == ("__debug__" : Str)) = false) (first : starEach (e :: es) X.env = (false, eval e X.env) :: starEach es X.env)
    (no_star : ((backTo pos (starEach (e :: es) X.env)).any (·.1) || (backToKw pos (keywordEach kws X.env)).any (·.1.isNone)) = false) :
    PE X (.Call (.Name x p) (e :: es) kws pos) fun σ H Q => t σ H fun vs H1 => tk σ H1 fun zs H2 => vs.length = n ∧ zs.length = ks.length ∧ ∃ xs, perm.mapM ((vs ++ zs)[·]?) = some xs ∧ sp xs H2 Q (E σ) where
  run pins s σ H Q I told := by
    refine wpAny_Call_Name_kw (ld_glob I global here (PySem.W.callWith_KW (h₀ := X.base) I.ok.mod.kin kept kw.named ?_ no_star first) plain)
    refine thn (args.run pos pins s σ H _ I told) fun us z ⟨vs, H1, J, same, q⟩ => thn (more.run pos pins z σ H1 _ J q) fun ws y ⟨zs, H2, L, same2, l1, l2, xs, order, q⟩ => ⟨L.kIn, ?_⟩
    exact kw.names ▸ callKG F room quiet up binds L same same2 l1 l2 order q
theorem pe_callKG0 {perm : List Nat} (F : FnG X.prog X.w X.K X.mg X.base CX q k f fd ps sp) (room : Room k X.A) (quiet : q = true → X.A.guards = some []) (up : ∀ σ, PassesAt CX X σ (E σ)) (global : Gl X x) (here : X.mg x = some (.ref f)) (kept : PySem.W.keepIn X.K (.ref f) = true) (binds : KB X.K fd ps 0 ks perm)
    (more : PK X kws tk) (kw : Keywords X pos kws ks) (plain : (x == ("__debug__" : Str)) = false) (no_star : ((backTo pos (starEach [] X.env)).any (·.1) || (backToKw pos (keywordEach kws X.env)).any (·.1.isNone)) = false) :
    PE X (.Call (.Name x p) [] kws pos) fun σ H Q => tk σ H fun zs H2 => zs.length = ks.length ∧ ∃ xs, perm.mapM (zs[·]?) = some xs ∧ sp xs H2 Q (E σ) where
  run pins s σ H Q I told := by
    refine wpAny_Call_Name_kw (ld_glob I global here (PySem.W.callWith_KW0 (h₀ := X.base) I.ok.mod.kin kept kw.named ?_ no_star) plain)
    refine thn (more.run pos pins s σ H _ I told) fun ws y ⟨zs, H2, L, same2, l2, xs, order, q⟩ => ⟨L.kIn, ?_⟩
    exact kw.names ▸ callKG (us := []) (vs := []) F room quiet up binds L .nil same2 rfl l2 order q
end
end Ev
end

section
set_option Elab.async false
set_option linter.all false
set_option maxRecDepth 100000
namespace Ev
open PySem PySem.Spec L2 PyProof.Rows
variable [TabList]
/-! ### the law's own call -/
section
variable {P : Program} {w : World} {K : PySem.W.Frag} {mg mb : Str → Option Value} {CX : CXT} {k : Nat} {f a : Addr} {fd : FuncData} {x : Str} {sp : Sp} {t : Shared} {us : List Value} {ns : List Int}
/-- the list that the law gets, as its caller holds it -/
abbrev scriptO (us : List Value) : Obj := { cls := .type "list", data := .seq us.toArray }
/-- the tables of code objects, as the law finds them: empty, outside of what is written -/
structure Bare (K : PySem.W.Frag) (h : PySem.Heap) (p : Addr) : Prop where
  get : h.get? p = some (PySem.W.tabObj #[])
  out : K.lookup p = none
/-- the module builtins, in the ground -/
structure Tops (base : PySem.Heap) (mg : Str → Option Value) (tb : List Addr) : Prop where
  bm : ∃ bm ob, mg "__builtins__" = some (.ref bm) ∧ bm ≠ builtinsNs ∧ bm ≠ mainGlobals ∧ (∀ p ∈ tb, bm ≠ p) ∧ base.get? bm = some ob ∧ ob.cls = .type "module" ∧ ob.dict = some builtinsNs ∧ ob.data = .plain
  gl : ∀ p ∈ tb, mainGlobals ≠ p
theorem Tops.at {base : PySem.Heap} {mg : Str → Option Value} {tb : List Addr} (T : Tops base mg tb) {p : Addr} (h : p ∈ tb) : base.BuiltinsAt mg p := by
  obtain ⟨bm, ob, a1, a2, a3, a4, a5, a6, a7, a8⟩ := T.bm
  exact ⟨bm, ob, a1, a2, a3, a4 p h, a5, a6, a7, a8⟩
/-- all that is tracked there -/
def First (K : PySem.W.Frag) (M : Hp) (a : Addr) (tb : List Addr) : Prop := ∀ b, M b = none ∨ (b ∈ tb ∧ M b = some (.tbl #[])) ∨ (b = a ∧ K.lookup a = none ∧ ∃ ob xs, M b = some (.frz ob xs))
/-- from a tracked heap M that tells the script and the tables alone -/
theorem law_from {q : Bool} {tb : List Addr} (M : Hp) (kin : K.In t.heap) (nsg : t.heap.Ns mainGlobals mg) (nsb : t.heap.Ns builtinsNs mb) (boot : ∀ y : Str, y ≠ "__name__" → mb y = bootBuiltins y) (nolim : t.heap.NoLimit) (hg : t.gens = #[])
    (ha : t.heap.get? a = some (scriptO us)) (ht : ∀ p ∈ tb, Bare K t.heap p) (hcode : ∀ p ∈ tb, isCodeTable t.heap p) (room : Room k callerA) (hbm : ∃ bm ob, mg "__builtins__" = some (.ref bm) ∧ bm ≠ builtinsNs ∧ t.heap.get? bm = some ob ∧ ob.cls = .type "module" ∧ ob.dict = some builtinsNs ∧ ob.data = .plain) (F : ∀ base : PySem.Heap, K.In base → base.Ns mainGlobals mg → Tops base mg tb → FnG P w K mg base CX q k f fd [x] sp) (hb : ∀ (s : Shared) (u : Value), BindsTo s fd ⟨[u], []⟩ [(x, u)])
    (only : First K M a tb) (hok : HOk P w M t.heap) (hsp : sp [.ref a] M (fun v _ => v = .bl true) fun _ _ _ => False) (hX : ∀ e s', CX [] M t (fun _ _ _ => False) e s' → False) :
    codeAny (model P w) callerA (.call (.ref f) ⟨[.ref a], []⟩) (fun r s' => r = .ok (.ret (.bool true)) ∧ OldK t.heap s'.heap ∧ s'.os = t.os ∧ AllBare s'.gens) t := by
  have other : ∀ {b : Addr} {o : Obj}, t.heap.get? b = some o → o ≠ scriptO us → o ≠ PySem.W.tabObj #[] → M b = none := fun {b o} e n1 n2 => by
    rcases only b with z | ⟨z, _⟩ | ⟨rfl, _⟩
    · exact z
    · rw [(ht b z).get] at e
      exact absurd (Option.some.inj e).symm n2
    · rw [ha] at e
      exact absurd (Option.some.inj e).symm n1
  have ns : ∀ {b : Addr} {m : Str → Option Value}, t.heap.Ns b m → (hidT t.heap M).Ns b m := by
    rintro b m ⟨o, es, ep, e, d, rest⟩
    exact ⟨o, es, ep, hidT_get e (other e (fun z => by rw [z] at d; cases d) fun z => by rw [z] at d; cases d), d, rest⟩
  have kept : K.In (hidT t.heap M) := fun b o e => hidT_get (kin b o e) (by
    rcases only b with z | ⟨z, _⟩ | ⟨rfl, z, _⟩
    · exact z
    · rw [(ht b z).out] at e
      cases e
    · rw [z] at e
      cases e)
  have md : Mod K mg (hidT t.heap M) := by
    obtain ⟨mc, n1, n2⟩ := nolim
    exact ⟨kept, ns nsg, ⟨mb, ns nsb, boot⟩, mc, ns n1, n2⟩
  have start : Env0 P w K mg (hidT t.heap M) callerA [] t M := { frames := rfl, mod := md, bs := fun b o e => of_hidT e, bsz := Nat.le_of_eq (hidT_size _ _), funs := trivial, frf := fun b hb => (by cases hb), hok := hok, bare := .of_eq hg }
  have tops : Tops (hidT t.heap M) mg tb := by
    obtain ⟨bm, ob, a1, a2, a3, a4, a5, a6⟩ := hbm
    have plain : ∀ {b : Addr} {o : Obj}, t.heap.get? b = some o → (∀ es ep, o.data ≠ .dict es ep) → b ≠ mainGlobals := fun {b o} e n z => by
      obtain ⟨o2, es, ep, e2, d, _⟩ := nsg
      rw [z, e2] at e
      exact n es ep (Option.some.inj e ▸ d)
    refine ⟨⟨bm, ob, a1, a2, plain a3 (fun _ _ e => by rw [a6] at e; cases e), fun p hp z => ?_, hidT_get a3 (other a3 (fun z => by rw [z] at a6; cases a6) fun z => by rw [z] at a6; cases a6), a4, a5, a6⟩, fun p hp => Ne.symm (plain (ht p hp).get fun _ _ e => by cases e)⟩
    rw [z, (ht p hp).get] at a3
    obtain rfl := Option.some.inj a3
    cases a6
  refine codeAny_mono ((F _ kept (ns nsg) tops).run callerA [] t M _ [.ref a] [.ref a] _ _ room (fun _ => rfl) start (hb t (.ref a)) (.cons rfl .nil) hsp) fun r s' done => ?_
  match r, done with
  | .error e, done => exact (hX e s' done).elim
  | .ok (.ret u), done =>
    obtain ⟨v, M', os, bare, un, hok', rel, q⟩ := done
    obtain rfl : v = .bl true := q
    obtain rfl : u = Value.bool true := rel
    refine ⟨rfl, ?_, os, bare⟩
    have each : ∀ b o, t.heap.get? b = some o → s'.heap.get? b = some o ∨ (b ∈ tb ∧ o = PySem.W.tabObj #[] ∧ ∃ more : Array Value, s'.heap.get? b = some { cls := .none, data := .fields more }) := fun b o e => by
      rcases only b with z | ⟨z1, z2⟩ | ⟨rfl, _, ob, xs, z⟩
      · exact .inl (un.keep b o e z (fun h => by cases h) fun h => by cases h)
      · obtain ⟨more, z⟩ := un.tbls b #[] z2
        rw [(ht b z1).get] at e
        exact .inr ⟨z1, (Option.some.inj e).symm, _, hok' b _ z⟩
      · have e1 := (hok b _ z).1
        rw [e] at e1
        rw [Option.some.inj e1]
        exact .inl (hok' b _ (un.frzs b ob _ z)).1
    exact ⟨fun b o e => (each b o e).imp id fun ⟨z, z1, more, z2⟩ => .inl ⟨hcode b z, by rw [z1], #[], more, by rw [z1], by rw [Array.empty_append, z1]; exact z2⟩, fun b o e => (each b o e).elim (fun z => ⟨_, z⟩) fun ⟨_, _, _, z⟩ => ⟨_, z⟩⟩
/-- the head, from the promise -/
theorem law_callG {q : Bool} {tb : List Addr} (kin : K.In t.heap) (nsg : t.heap.Ns mainGlobals mg) (nsb : t.heap.Ns builtinsNs mb) (boot : ∀ y : Str, y ≠ "__name__" → mb y = bootBuiltins y) (nolim : t.heap.NoLimit) (hg : t.gens = #[])
    (ha : t.heap.get? a = some (scriptO us)) (ht : ∀ p ∈ tb, Bare K t.heap p) (hcode : ∀ p ∈ tb, isCodeTable t.heap p) (hi : IntsAre us ns) (hl : ns.length ≤ sizeLine) (room : Room k callerA) (hbm : ∃ bm ob, mg "__builtins__" = some (.ref bm) ∧ bm ≠ builtinsNs ∧ t.heap.get? bm = some ob ∧ ob.cls = .type "module" ∧ ob.dict = some builtinsNs ∧ ob.data = .plain) (F : ∀ base : PySem.Heap, K.In base → base.Ns mainGlobals mg → Tops base mg tb → FnG P w K mg base CX q k f fd [x] sp) (hb : ∀ (s : Shared) (u : Value), BindsTo s fd ⟨[u], []⟩ [(x, u)])
    (hsp : ∀ M : Hp, (∀ p ∈ tb, M p = some (.tbl #[])) → SqL K M a (ns.map V.int) → sp [.ref a] M (fun v _ => v = .bl true) fun _ _ _ => False) (hX : ∀ M e s', CX [] M t (fun _ _ _ => False) e s' → False) :
    codeAny (model P w) callerA (.call (.ref f) ⟨[.ref a], []⟩) (fun r s' => r = .ok (.ret (.bool true)) ∧ OldK t.heap s'.heap ∧ s'.os = t.os ∧ AllBare s'.gens) t := by
  have rel := vals_ints hi
  have size : (ns.map V.int).length ≤ sizeLine := by
    rw [List.length_map]
    exact hl
  let T : Hp := fun b => if b ∈ tb then some (.tbl #[]) else none
  have T_in : ∀ {b : Addr}, b ∈ tb → T b = some (.tbl #[]) := fun h => if_pos h
  have T_off : ∀ {b : Addr}, b ∉ tb → T b = none := fun h => if_neg h
  have tables : ∀ b (u : HO), T b = some u → ObjOk P w T t.heap b u ∧ b ∈ tb ∧ u = .tbl #[] := fun b u z => by
    by_cases e : b ∈ tb
    · rw [T_in e] at z
      cases z
      exact ⟨(ht b e).get, e, rfl⟩
    · rw [T_off e] at z
      cases z
  cases hk : K.lookup a with
  | some o =>
    obtain rfl : scriptO us = o := Option.some.inj (ha.symm.trans (kin a o hk))
    have only : First K T a tb := fun b => by
      by_cases e : b ∈ tb
      · exact .inr (.inl ⟨e, T_in e⟩)
      · exact .inl (T_off e)
    have written : SqL K T a (ns.map V.int) := .inr ⟨_, us.toArray, _, hk, rfl, rfl, rfl, by rw [List.size_toArray, hi.length]; exact hl, by simpa using rel⟩
    exact law_from T kin nsg nsb boot nolim hg ha ht hcode room hbm F hb only (fun b u z => (tables b u z).1) (hsp _ (fun p h => T_in h) written) (hX _)
  | none =>
    have apart : a ∉ tb := fun z => by
      have e := (ht a z).get
      rw [ha] at e
      have d : Data.seq us.toArray _ = Data.fields #[] := congrArg Obj.data (Option.some.inj e)
      cases d
    let M : Hp := fun b => if b = a then some (.frz (scriptO us) (.lst (ns.map V.int))) else T b
    have M_a : M a = some (.frz (scriptO us) (.lst (ns.map V.int))) := if_pos rfl
    have M_ne : ∀ {b : Addr}, b ≠ a → M b = T b := fun h => if_neg h
    have M_tb : ∀ {b : Addr}, b ∈ tb → M b = some (.tbl #[]) := fun {b} h => (M_ne fun z => apart (z ▸ h)).trans (T_in h)
    have only : First K M a tb := fun b => by
      by_cases e : b = a
      · exact .inr (.inr ⟨e, hk, _, _, e ▸ M_a⟩)
      · by_cases e' : b ∈ tb
        · exact .inr (.inl ⟨e', M_tb e'⟩)
        · exact .inl ((M_ne e).trans (T_off e'))
    refine law_from M kin nsg nsb boot nolim hg ha ht hcode room hbm F hb only (fun b u z => ?_) (hsp _ (fun p h => M_tb h) (.inl (.inr ⟨_, M_a⟩))) (hX _)
    by_cases e : b = a
    · subst e
      rw [M_a] at z
      cases z
      exact ⟨ha, size, us, _, rel, ha⟩
    · rw [M_ne e] at z
      obtain ⟨_, z1, rfl⟩ := tables b u z
      exact (ht b z1).get
end
/-- what k_head and k_fill leave; tb: the tables of the defs that have a lambda -/
theorem walkG {l : PySem.W.OpenLaw} {n k : Nat} {q : Program} {loose : List Str} {XP : (Str → Option Value) → PySem.Heap → Prop} {YP : World → PySem.Heap → Prop} {d : DefRec} {K : Params → PySem.W.Frag} {CX : World → CXT} {x : Str}
    (most : l.most = some n) (small : n ≤ sizeLine) (nodef : d.params.defaults = []) (room : Room k callerA) (kin : ∀ (w : World) (h : PySem.Heap), YP w h → (K w.params).In h)
    (F : ∀ (w : World) (mg : Str → Option Value) (f : Addr) (h : PySem.Heap), (K w.params).In h → h.Ns mainGlobals mg → mg d.name = some (.ref f) → ∃ (fd : FuncData) (tb : List (Str × Addr × Addr)) (sp : Sp), (∀ (s : Shared) (u : Value), BindsTo s fd ⟨[u], []⟩ [(x, u)]) ∧
      (∀ p ∈ tb, (∃ d : DefRec, (recsOf q).find? (fun e => e.name == p.1) = some d) ∧ PySem.W.tabIn (K w.params) p.1 = some p.2 ∧ (K w.params).lookup p.2.2 = none) ∧
      (∀ (M : Hp) (a : Addr) (ns : List Int), ns.length ≤ n → (∀ p ∈ tb, M p.2.2 = some (.tbl #[])) → SqL (K w.params) M a (ns.map V.int) → sp [.ref a] M (fun v _ => v = .bl true) fun _ _ _ => False) ∧
      ∀ base : PySem.Heap, (K w.params).In base → base.Ns mainGlobals mg → Tops base mg (tb.map (·.2.2)) → FnG l.prog w (K w.params) mg base (CX w) true k f fd [x] sp)
    (hX : ∀ (w : World) (M : Hp) (s : Shared) (e : Value) (s' : Shared), CX w [] M s (fun _ _ _ => False) e s' → False) : PySem.W.WalkO q loose XP YP l.row.toRowW d [] (fun f vs => PySem.call f vs) := by
  refine Att.attach_call most nodef fun w t0 t mg mb f o pm cd doc a us ns G Y _ _ _ hmg obj hints len gens => ?_
  obtain ⟨fd, tb, sp, hb, ht, hsp, hF⟩ := F w mg f _ (kin w _ Y) G.T.g hmg
  have known : ∀ p ∈ tb, PySem.W.CodeHd t.heap p.2.1 p.2.2 ∧ t.heap.get? p.2.2 = some (PySem.W.tabObj #[]) := fun p hp => by
    obtain ⟨⟨d, e⟩, e2, _⟩ := ht p hp
    exact PySem.W.tab_of G.T (kin w _ Y) e e2
  have told : ∀ {c : Addr}, c ∈ tb.map (·.2.2) → ∃ p ∈ tb, p.2.2 = c := fun h => List.mem_map.mp h
  refine law_callG (tb := tb.map (·.2.2)) (kin w _ Y) G.T.g G.T.b G.T.builtins G.T.nolimit gens obj (fun c hc => ?_) (fun c hc => ?_) hints (Nat.le_trans len small) room (by obtain ⟨bm, ob, a1, a2, a3, a4, a5, a6⟩ := G.T.bmain; exact ⟨bm, ob, a1, a2, a3, a4, a5, a6⟩) hF hb (fun M hM sq => hsp M a ns len (fun p hp => hM _ (List.mem_map.mpr ⟨p, hp, rfl⟩)) sq) fun M e s' => hX w M t e s'
  · obtain ⟨p, hp, rfl⟩ := told hc
    exact ⟨(known p hp).2, (ht p hp).2.2⟩
  · obtain ⟨p, hp, rfl⟩ := told hc
    exact ((known p hp).1.tab (known p hp).2).isCodeTable
end Ev
end

section
set_option Elab.async false
set_option linter.all false
set_option maxRecDepth 100000
namespace Ev
open PySem L2 PyProof.Rows
variable [TabList]
/-! ### defs, by the evaluator -/
def Pm (Pr : Addr → Prop) (m : List Addr) : Addr → Prop := fun a => Pr a ∨ a ∈ m
structure Cells (K : PySem.W.Frag) (Pr : Addr → Prop) (hp : Heap) (m : List Addr) (H : Hp) : Prop where
  cells : m.length = hp.length
  cell : ∀ (k : Nat) (d : D), hp[k]? = some d → ∃ a o, m[k]? = some a ∧ H a = some o ∧ Of K (Pm Pr m) m H o d
  nd : m.Nodup
  pr : ∀ a, Pr a → H a ≠ none
  tabs : LamX.Tabs TabList.T H
inductive RepM (K : PySem.W.Frag) (Fb : Addr → Prop) (m : List Addr) (H : Hp) : List Bool → List V → List D → Prop
  | nil : RepM K Fb m H [] [] []
  | val {v d bs vs ds} : Rep K Fb m H v d → RepM K Fb m H bs vs ds → RepM K Fb m H (false :: bs) (v :: vs) (d :: ds)
  | bor {v d bs vs ds} : RepW K Fb m H v d → RepM K Fb m H bs vs ds → RepM K Fb m H (true :: bs) (v :: vs) (d :: ds)
/-- an error that a def lets out -/
def XF (K : PySem.W.Frag) (Pr : Addr → Prop) (m : List Addr) (H : Hp) (W : XK) (c : Nat) (ns : List Str) (fs : List D) (hp' : Heap) : Prop :=
  ∀ H' m' d vs, Cells K Pr hp' m' H' → Step m H m' H' → H' d = some (.xd (ns.zip vs)) → vs.length = ns.length → RepL K (Pm Pr m') m' H' vs fs → W (.ref (TabList.cls c)) (some d) H'
def spF (K : PySem.W.Frag) (G : List D → Heap → R D) (modes : List Bool) : Sp := fun vs H Q W => ∃ Pr hp m ds, Cells K Pr hp m H ∧ RepM K (Pm Pr m) m H modes vs ds ∧
  RR (G ds hp) (fun d hp' => ∀ v H' m', Cells K Pr hp' m' H' → Step m H m' H' → Rep K (Pm Pr m') m' H' v d → Q v H') (XF K Pr m H W)
section
variable {K : PySem.W.Frag} {g : Gh} {env env' : Env} {hp hp' : Heap} {m m' : List Addr} {σ σ' : L2.St} {H H' : Hp} {Fb Fb' : Addr → Prop} {bs : List Bool} {vs : List V} {ds : List D}
theorem RepM.len (r : RepM K Fb m H bs vs ds) : vs.length = bs.length ∧ ds.length = bs.length := by
  induction r with
  | nil => exact ⟨rfl, rfl⟩
  | val _ _ ih => exact ⟨congrArg (· + 1) ih.1, congrArg (· + 1) ih.2⟩
  | bor _ _ ih => exact ⟨congrArg (· + 1) ih.1, congrArg (· + 1) ih.2⟩
theorem RepW.fb (h : ∀ a, Fb' a ↔ Fb a) {v : V} {d : D} (r : RepW K Fb m H v d) : RepW K Fb' m H v d := by
  rw [show Fb' = Fb from funext fun a => propext (h a)]
  exact r
theorem RepM.fb (h : ∀ a, Fb' a ↔ Fb a) (r : RepM K Fb m H bs vs ds) : RepM K Fb' m H bs vs ds := by
  rw [show Fb' = Fb from funext fun a => propext (h a)]
  exact r
theorem RepM.step (hm : Cellar m H) (s : Step m H m' H') (r : RepM K (Fbd g env σ m) m H bs vs ds) : RepM K (Fbd g env σ m') m' H' bs vs ds := by
  induction r with
  | nil => exact .nil
  | val h _ ih => exact .val (h.step hm s) ih
  | bor h _ ih => exact .bor (h.step hm s) ih
theorem RepM.get {i : Nat} {b : Bool} (r : RepM K Fb m H bs vs ds) (h : bs[i]? = some b) : ∃ v d, vs[i]? = some v ∧ ds[i]? = some d ∧ (b = false → Rep K Fb m H v d) ∧ (b = true → RepW K Fb m H v d) := by
  induction r generalizing i with
  | nil => simp at h
  | val q _ ih =>
    cases i with
    | zero =>
      cases h
      exact ⟨_, _, rfl, rfl, fun _ => q, fun z => Bool.noConfusion z⟩
    | succ i => exact ih h
  | bor q _ ih =>
    cases i with
    | zero =>
      cases h
      exact ⟨_, _, rfl, rfl, fun z => Bool.noConfusion z, fun _ => q⟩
    | succ i => exact ih h
theorem RepM.perm (r : RepM K Fb m H bs vs ds) : ∀ {perm : List Nat} {cs : List Bool} {es : List D}, perm.mapM (bs[·]?) = some cs → perm.mapM (ds[·]?) = some es → ∃ ws, perm.mapM (vs[·]?) = some ws ∧ RepM K Fb m H cs ws es
  | [], cs, es, h1, h2 => by
    simp only [List.mapM_nil] at h1 h2
    cases h1
    cases h2
    exact ⟨[], rfl, .nil⟩
  | i :: perm, cs, es, h1, h2 => by
    rw [List.mapM_cons] at h1 h2
    obtain ⟨b, hb, h1⟩ := Option.bind_eq_some_iff.mp h1
    obtain ⟨cs', hc, h1⟩ := Option.bind_eq_some_iff.mp h1
    obtain ⟨d, hd, h2⟩ := Option.bind_eq_some_iff.mp h2
    obtain ⟨es', he, h2⟩ := Option.bind_eq_some_iff.mp h2
    cases h1
    cases h2
    obtain ⟨ws, hw, rr⟩ := r.perm hc he
    obtain ⟨v, d', hv, hd', k1, k2⟩ := r.get hb
    rw [hd] at hd'
    cases hd'
    refine ⟨v :: ws, by rw [List.mapM_cons, hv, hw]; rfl, ?_⟩
    cases b with
    | false => exact .val (k1 rfl) rr
    | true => exact .bor (k2 rfl) rr
theorem pm_fbd : Pm (fun a => g.Pr a ∨ isOwn env σ a) m = Fbd g env σ m := by
  funext a
  unfold Pm Fbd
  rw [or_assoc]
/-- a callee's Cells, from a caller's state -/
theorem StRel.out (S : StRel K g env hp m σ H) : Cells K (fun a => g.Pr a ∨ isOwn env σ a) hp m H := by
  refine ⟨S.cells, fun k xs h => ?_, S.nd, fun a z => z.elim (S.pr a) fun z => ?_, S.tabs⟩
  · rw [pm_fbd]
    exact S.cell k xs h
  · exact S.fb a (.inr (.inl z))
/-- behind a call -/
theorem StRel.after (S : StRel K g env hp m σ H) (st : Step m H m' H') (C : Cells K (fun a => g.Pr a ∨ isOwn env σ a) hp' m' H') : StRel K g env hp' m' σ H' := by
  refine ⟨S.len, fun i x hx => (S.slots i x hx).step S.at_m st, S.apart, C.cells, fun k xs h => ?_, C.nd, fun a h => C.pr a (.inl h), fun a o h n nt => ?_, ?_, C.tabs, fun a h => ?_⟩
  · have := C.cell k xs h
    rw [pm_fbd] at this
    exact this
  · refine st.keep a o (S.frame a o h n nt) (fun z => ?_) nt
    obtain ⟨r, e, f⟩ := S.more
    rw [e] at z
    rcases List.mem_append.mp z with z | z
    · exact n z
    · rw [f a z] at h
      cases h
  · obtain ⟨r, e, f⟩ := S.more
    obtain ⟨r', e', f'⟩ := st.more
    refine ⟨r ++ r', by rw [e', e, List.append_assoc], fun a z => ?_⟩
    rcases List.mem_append.mp z with z | z
    · exact f a z
    · exact (S.new (f' a z)).1
  · cases q : H a with
    | none => exact absurd q (S.has a h)
    | some o =>
      obtain ⟨o', h'⟩ := st.there a o q
      rw [h']
      simp
theorem zipParam_get : ∀ (ms : List Bool) (ds : List D) (i : Nat) (x : Sl), (List.zipWith param ms ds)[i]? = some x → ∃ b d, ms[i]? = some b ∧ ds[i]? = some d ∧ x = param b d
  | b :: ms, d :: ds, 0, x, h => ⟨b, d, rfl, rfl, (Option.some.inj h).symm⟩
  | b :: ms, d :: ds, i + 1, x, h => zipParam_get ms ds i x h
  | [], _, _, _, k => by simp at k
  | _ :: _, [], _, _, h => by simp at h
theorem startEnv_get {f : Fn} {i : Nat} {x : Sl} (hl : ds.length = f.modes.length) (h : (startEnv f ds)[i]? = some x) : (∃ b d, f.modes[i]? = some b ∧ ds[i]? = some d ∧ x = param b d) ∨ x = .none := by
  unfold startEnv at h
  by_cases hi : i < (List.zipWith param f.modes ds).length
  · rw [List.getElem?_append_left hi] at h
    exact .inl (zipParam_get _ _ _ _ h)
  · rw [List.getElem?_append_right (Nat.le_of_not_lt hi), List.getElem?_replicate] at h
    split at h
    · exact .inr (Option.some.inj h).symm
    · cases h
theorem start_rel {y : Yx} {Pr : Addr → Prop} {f : Fn} {N : List Str} (C : Cells K Pr hp m H) (hl : ds.length = f.modes.length) (r : RepM K (Pm Pr m) m H f.modes vs ds) (hs : f.slots = N.length) (hle : f.modes.length ≤ N.length) : StRel K ⟨Pr, H, m, y⟩ (startEnv f ds) hp m (start N vs) H := by
  obtain ⟨l1, l2⟩ := r.len
  have np : ∀ (i : Nat) (d : D), (startEnv f ds)[i]? ≠ some (.own d) := fun i d h => by
    rcases startEnv_get hl h with ⟨b, e, _, _, z⟩ | z
    · cases b with
      | false => cases z
      | true => cases e <;> cases z
    · cases z
  have fb : Fbd ⟨Pr, H, m, y⟩ (startEnv f ds) (start N vs) m = Pm Pr m := by
    funext a
    unfold Fbd Pm
    refine propext ⟨fun z => ?_, fun z => z.imp id .inr⟩
    rcases z with z | ⟨i, d, z, _⟩ | z
    · exact .inl z
    · exact absurd z (np i d)
    · exact .inr z
  have sg : ∀ {i : Nat} {v : V}, vs[i]? = some v → (start N vs)[i]? = some (some v) := fun {i v} h => by
    have hi : i < vs.length := (List.getElem?_eq_some_iff.mp h).1
    unfold L2.start
    rw [List.getElem?_append_left (by rw [List.length_map]; exact hi), List.getElem?_map, h]
    rfl
  refine ⟨?_, fun i x h => ?_, fun i j d e a h => absurd h (np i d), C.cells, fun k xs h => ?_, C.nd, C.pr, fun a o h _ _ => h, ⟨[], by simp, by simp⟩, C.tabs, fun a h => h⟩
  · unfold startEnv L2.start
    rw [List.length_append, List.length_append, List.length_map, List.length_replicate, List.length_replicate, List.length_zipWith, hs]
    omega
  · rcases startEnv_get hl h with ⟨b, d, hb, hd, rfl⟩ | rfl
    · obtain ⟨v, d', hv, hd', k1, k2⟩ := r.get hb
      rw [hd] at hd'
      cases hd'
      have val : Rep K (Pm Pr m) m H v d → SlotOk K ⟨Pr, H, m, y⟩ (startEnv f ds) m (start N vs) H i (.val d) := fun q => ⟨v, sg hv, by rw [fb]; exact q⟩
      cases b with
      | false => exact val (k1 rfl)
      | true =>
        have q := k2 rfl
        cases d with
        | lst es =>
          have hb : ∃ a ws, v = .ref a ∧ Bor K m H a ws ∧ RepL K (Pm Pr m) m H ws es := by
            cases q with
            | of q =>
              cases q with
              | lst h1 n q => exact ⟨_, _, rfl, .inl ⟨.inl h1, fun z => n (.inr z)⟩, q⟩
            | lst h q => exact ⟨_, _, rfl, h, q⟩
            | own h1 n q =>
              obtain ⟨ws, rfl, z⟩ := q.lst_inv
              exact ⟨_, ws, rfl, .inl ⟨.inl h1, n⟩, z⟩
          obtain ⟨a, ws, rfl, h1, h2⟩ := hb
          refine ⟨a, ws, es, sg hv, rfl, h1, by rw [fb]; exact h2, fun z => ?_⟩
          have z : H a = none := z
          rcases h1 with ⟨h | ⟨o, h⟩, _⟩ | h
          · rw [z] at h
            cases h
          · rw [z] at h
            cases h
          · exact h
        | obj c ns es => trivial
        | _ =>
          cases q with
          | of q => exact val q
          | own _ _ q => exact q.elim
    · trivial
  · rw [fb]
    exact C.cell k xs h
end
/-- a def of the text does what the evaluator says -/
theorem fnE_of {P : Program} {w : World} {K : PySem.W.Frag} {mg : Str → Option Value} {base : PySem.Heap} {q : Bool} {k : Nat} {f : Addr} {fd : FuncData} {ps N : List Str} {name qual : Str} {st : Stmt} {fn : Fn} {Γ : Gm} (F : Fun K name qual st f fd) (sc : FnScope N ps (defScope st))
    (hs : fn.slots = N.length) (hm : fn.modes.length = ps.length) (hle : ps.length ≤ N.length)
    (hbody : ∀ (B : Around) (frs : List PySem.Env) (t : Shared) (M : Hp) (W : XK), Room k (B.deeper (envOfC qual (defScope st) t.heap.objs.size f fd.code)) → (q = true → (B.deeper (envOfC qual (defScope st) t.heap.objs.size f fd.code)).guards = some []) →
      PSs (cxOf (L2.CX P w) P w K mg base N qual (defScope st) f fd.code B frs t M W) (defBody st) (tSs K ⟨Γ, fun cls d _ H => W cls d H, ⟨none, none⟩⟩ fn.body)) : FnG P w K mg base (L2.CX P w) q (k + 1) f fd ps (spF K (evFn reprL Γ fn) fn.modes) := by
  refine fnG_of F sc (fun vs M Q W ⟨Pr, hp, m, ds, C, r, _⟩ => r.len.1.trans hm) fun B frs t M vs Q W room hgu h => ⟨_, hbody B frs t M W room hgu, ?_⟩
  obtain ⟨Pr, hp, m, ds, C, r, ev⟩ := h
  have hl : ds.length = fn.modes.length := r.len.2
  unfold evFn at ev
  rw [if_pos hl] at ev
  obtain ⟨fl, h1, e1, ev⟩ := (RR.bind (r := calmly (evSs reprL Γ fn.body (startEnv fn ds) hp)) ev).calm
  have done : ∀ {env' : Env} {σ' : L2.St} {H' : Hp} {m' : List Addr}, StRel K ⟨Pr, M, m, ⟨none, none⟩⟩ env' h1 m' σ' H' → SStep (startEnv fn ds) (start N vs) m M env' σ' m' H' → Cells K Pr h1 m' H' ∧ Step m M m' H' := fun {env' σ' H' m'} S' st =>
    ⟨⟨S'.cells, fun k xs h => by
      obtain ⟨a, o, z1, z2, z3⟩ := S'.cell k xs h
      exact ⟨a, o, z1, z2, z3.imp fun _ _ r => r.less fun a z => z.imp id .inr⟩, S'.nd, S'.pr, S'.tabs⟩, ⟨S'.more, fun a o h n nt => S'.frame a o h n nt, st.there, st.tabs⟩⟩
  refine ⟨⟨Pr, M, m, ⟨none, none⟩⟩, _, hp, m, rfl, start_rel C hl r hs (by omega), fl, h1, e1, ?_⟩
  cases fl with
  | nx env' => exact fun σ' H' m' S' st => (show ∀ v H' m', Cells K Pr h1 m' H' → Step m M m' H' → Rep K (Pm Pr m') m' H' v .non → Q v H' from ev) .non H' m' (done S' st).1 (done S' st).2 .non
  | ret d' => exact fun v env' σ' H' m' S' st rv => (show ∀ v H' m', Cells K Pr h1 m' H' → Step m M m' H' → Rep K (Pm Pr m') m' H' v d' → Q v H' from ev) v H' m' (done S' st).1 (done S' st).2 rv
  | exc env' c ns fs => exact fun σ' H' m' d vs S' st e l r => (show XF K Pr m M W c ns fs h1 from ev) H' m' d vs (done S' st).1 (done S' st).2 e l (r.less fun a z => z.imp id .inr)
  | _ => exact ev.elim
/-! ### calls of own defs -/
def tMs (K : PySem.W.Frag) (Y : Yd) (g : Gh) (bs : List Bool) (cs : List E) : TA := fun σ H Q => ∃ env hp m, StRel K g env hp m σ H ∧ RR (evEs reprL Y.Γ cs env hp) (fun ds hp' =>
  ∀ vs H' m', StRel K g env hp' m' σ H' → Step m H m' H' → RepM K (Fbd g env σ m') m' H' bs vs ds → Q vs H') (XP K Y g env σ m H)
section
variable {X : Cx} {Y : Yd} {g : Gh} {q : Bool} {k : Nat} {f : Addr} {fd : FuncData} {ps ks : List Str} {x : Str} {p pos : Pos} {e : Expr} {es : List Expr} {kws : List Keyword} {c : E} {cs : List E} {bs modes : List Bool} {i : Nat}
theorem ms_stop {σ : L2.St} {H : Hp} {Q : List V → Hp → Prop} (q : tMs X.K Y g [] [] σ H Q) : Q [] H := by
  obtain ⟨env, hp, m, S, ev⟩ := q
  exact (show ∀ vs H' m', StRel X.K g env hp m' σ H' → Step m H m' H' → RepM X.K (Fbd g env σ m') m' H' [] vs [] → Q vs H' from ev) _ _ m S Step.refl .nil
theorem ms_turn0 {σ : L2.St} {H : Hp} {Q : List V → Hp → Prop} (q : tMs X.K Y g (false :: bs) (c :: cs) σ H Q) : tE X.K Y g c σ H fun v H1 => tMs X.K Y g bs cs σ H1 fun vs H2 => Q (v :: vs) H2 := by
  obtain ⟨env, hp, m, S, ev⟩ := q
  have ev := RR.bind (r := evE reprL Y.Γ c env hp) ev
  exact ⟨env, hp, m, S, ev.imp (fun x h1 ev v1 H1 m1 S1 st1 r1 => ⟨env, h1, m1, S1, (RR.bind (r := evEs reprL Y.Γ cs env h1) ev).imp (fun xs h2 ev vs H2 m2 S2 st2 r2 => ev _ H2 m2 S2 (st1.trans st2) (.val (r1.step S1.at_m st2) r2)) fun _ _ _ _ x => x.step st1⟩) fun _ _ _ _ x => x⟩
theorem ms_turn1 {σ : L2.St} {H : Hp} {Q : List V → Hp → Prop} (q : tMs X.K Y g (true :: bs) (c :: cs) σ H Q) : tV X.K Y g c σ H fun v H1 => tMs X.K Y g bs cs σ H1 fun vs H2 => Q (v :: vs) H2 := by
  obtain ⟨env, hp, m, S, ev⟩ := q
  have ev := RR.bind (r := evE reprL Y.Γ c env hp) ev
  exact ⟨env, hp, m, S, ev.imp (fun x h1 ev v1 H1 m1 S1 st1 r1 => ⟨env, h1, m1, S1, (RR.bind (r := evEs reprL Y.Γ cs env h1) ev).imp (fun xs h2 ev vs H2 m2 S2 st2 r2 => ev _ H2 m2 S2 (st1.trans st2) (.bor (r1.step S1.at_m st2) r2)) fun _ _ _ _ x => x.step st1⟩) fun _ _ _ _ x => x⟩
theorem ms_nil : PA X [] (tMs X.K Y g [] []) := paWeak pa_nil fun _ _ _ q => ms_stop q
theorem ms_val (h : PE X e (tE X.K Y g c)) (hs : PA X es (tMs X.K Y g bs cs)) (ns : notStar e = true) : PA X (e :: es) (tMs X.K Y g (false :: bs) (c :: cs)) := paWeak (pa_cons h hs (star_cons ns es X.env)) fun _ _ _ q => ms_turn0 q
theorem ms_bor (h : PE X e (tV X.K Y g c)) (hs : PA X es (tMs X.K Y g bs cs)) (ns : notStar e = true) : PA X (e :: es) (tMs X.K Y g (true :: bs) (c :: cs)) := paWeak (pa_cons h hs (star_cons ns es X.env)) fun _ _ _ q => ms_turn1 q
theorem pkWeak {kws : List Keyword} {t t' : TA} (h : PK X kws t) (i : ∀ σ H Q, t' σ H Q → t σ H Q) : PK X kws t' := ⟨fun pos pins s σ H Q I q => h.run pos pins s σ H Q I (i _ _ _ q)⟩
theorem mk_nil : PK X [] (tMs X.K Y g [] []) := pkWeak pk_nil fun _ _ _ q => ms_stop q
theorem mk_val {nm : Option Str} {kp : Pos} (h : PE X e (tE X.K Y g c)) (hs : PK X kws (tMs X.K Y g bs cs)) : PK X (⟨nm, e, kp⟩ :: kws) (tMs X.K Y g (false :: bs) (c :: cs)) := pkWeak (pk_cons h hs) fun _ _ _ q => ms_turn0 q
theorem mk_bor {nm : Option Str} {kp : Pos} (h : PE X e (tV X.K Y g c)) (hs : PK X kws (tMs X.K Y g bs cs)) : PK X (⟨nm, e, kp⟩ :: kws) (tMs X.K Y g (true :: bs) (c :: cs)) := pkWeak (pk_cons h hs) fun _ _ _ q => ms_turn1 q
/-- the callee's promise, from the caller's state -/
theorem sp_of {G : List D → Heap → R D} {env : Env} {hp : Heap} {m : List Addr} {σ : L2.St} {H : Hp} {vs : List V} {ds : List D} {Q : VK} (S : StRel X.K g env hp m σ H) (r : RepM X.K (Fbd g env σ m) m H modes vs ds)
    (ev : RR (G ds hp) (fun d hp' => ∀ v H' m', StRel X.K g env hp' m' σ H' → Step m H m' H' → Rep X.K (Fbd g env σ m') m' H' v d → Q v H') (XP X.K Y g env σ m H)) : spF X.K G modes vs H Q (WE Y.W σ) := by
  refine ⟨fun a => g.Pr a ∨ isOwn env σ a, hp, m, ds, S.out, by rw [pm_fbd]; exact r, ev.imp (fun d hp' q v H' m' C st rv => ?_) fun c ns fs hp' q H' m' d vs C st e l r => ?_⟩
  · rw [pm_fbd] at rv
    exact q v H' m' (S.after st C) st rv
  · rw [pm_fbd] at r
    exact q H' m' d vs (S.after st C) st e l r
theorem call_reads {env : Env} {hp : Heap} {m : List Addr} {σ : L2.St} {H : Hp} {Q : VK} (S : StRel X.K g env hp m σ H) (ev : RR (evE reprL Y.Γ (.call i cs) env hp) (fun d hp' => ∀ v H' m', StRel X.K g env hp' m' σ H' → Step m H m' H' → Rep X.K (Fbd g env σ m') m' H' v d → Q v H') (XP X.K Y g env σ m H)) :
    tMs X.K Y g modes cs σ H fun vs H1 => spF X.K (Y.Γ.fn i) modes vs H1 Q (WE Y.W σ) :=
  ⟨env, hp, m, S, (RR.bind (r := evEs reprL Y.Γ cs env hp) ev).imp (fun ds h1 ev vs H1 m1 S1 st1 r1 => sp_of S1 r1 (ev.imp (fun d hp' q v H' m' S' st' r' => q v H' m' S' (st1.trans st') r') fun _ _ _ _ x => x.step st1)) fun _ _ _ _ x => x⟩
section
variable (tk : Takes X Y.W)
include tk
theorem e_call (F : FnG X.prog X.w X.K X.mg X.base (L2.CX X.prog X.w) q k f fd ps (spF X.K (Y.Γ.fn i) modes)) (room : Room k X.A) (hgu : q = true → X.A.guards = some []) (hg : Gl X x) (hm : X.mg x = some (.ref f)) (hk : PySem.W.keepIn X.K (.ref f) = true) (hb : Binds X.K fd ps [])
    (ha : PA X (e :: es) (tMs X.K Y g modes cs)) (hdb : (x == ("__debug__" : Str)) = false) (ns : notStar e = true) (hpl : (backTo pos (starEach es X.env)).any (·.1) = false) : PE X (.Call (.Name x p) (e :: es) [] pos) (tE X.K Y g (.call i cs)) :=
  peWeak (pe_callG F room hgu (passAt tk) hg hm hk hb ha hdb (star_cons ns es X.env) hpl) fun σ H Q ⟨env, hp, m, S, ev⟩ => call_reads S ev
theorem e_call0 (F : FnG X.prog X.w X.K X.mg X.base (L2.CX X.prog X.w) q k f fd ps (spF X.K (Y.Γ.fn i) [])) (room : Room k X.A) (hgu : q = true → X.A.guards = some []) (hg : Gl X x) (hm : X.mg x = some (.ref f)) (hk : PySem.W.keepIn X.K (.ref f) = true) (hb : Binds X.K fd ps [])
    (hdb : (x == ("__debug__" : Str)) = false) : PE X (.Call (.Name x p) [] [] pos) (tE X.K Y g (.call i [])) :=
  peWeak (pe_callG0 F room hgu (passAt tk) hg hm hk hb hdb) fun σ H Q ⟨env, hp, m, S, ev⟩ => sp_of S .nil ev
end
theorem R.assoc {α β γ : Type} {r : R α} {f : α → Heap → R β} {h : β → Heap → R γ} : R.bind (R.bind r f) h = R.bind r fun a z => R.bind (f a z) h := by
  cases r with
  | none => rfl
  | some o => cases o <;> rfl
theorem evEs_append {Γ : Gm} : ∀ {cs cs' : List E} {env : Env} {hp : Heap}, evEs reprL Γ (cs ++ cs') env hp = R.bind (evEs reprL Γ cs env hp) fun d1 h1 => R.bind (evEs reprL Γ cs' env h1) fun d2 h2 => rok (d1 ++ d2) h2
  | [], cs', env, hp => by
    show evEs reprL Γ cs' env hp = R.bind (evEs reprL Γ cs' env hp) fun d2 h2 => rok d2 h2
    cases evEs reprL Γ cs' env hp with
    | none => rfl
    | some o => cases o <;> rfl
  | c :: cs, cs', env, hp => by
    show R.bind (evE reprL Γ c env hp) (fun d h => R.bind (evEs reprL Γ (cs ++ cs') env h) fun ds h => rok (d :: ds) h) = R.bind (R.bind (evE reprL Γ c env hp) fun d h => R.bind (evEs reprL Γ cs env h) fun ds h => rok (d :: ds) h) _
    rw [R.assoc]
    congr 1
    funext d h
    rw [evEs_append, R.assoc, R.assoc]
    congr 1
    funext d1 h1
    rw [R.assoc]
    rfl
theorem RepM.append {K : PySem.W.Frag} {Fb : Addr → Prop} {m : List Addr} {H : Hp} {b1 b2 : List Bool} {v1 v2 : List V} {d1 d2 : List D} (r1 : RepM K Fb m H b1 v1 d1) (r2 : RepM K Fb m H b2 v2 d2) : RepM K Fb m H (b1 ++ b2) (v1 ++ v2) (d1 ++ d2) := by
  induction r1 with
  | nil => exact r2
  | val h _ ih => exact .val h ih
  | bor h _ ih => exact .bor h ih
/-- the arguments, put into the parameters' order -/
def byPerm (Γ : Gm) (i : Nat) (perm : List Nat) (ds : List D) (h : Heap) : R D := match perm.mapM (ds[·]?) with
  | some ds => Γ.fn i ds h
  | none => none
theorem perm_reads {perm : List Nat} {env : Env} {hp : Heap} {m : List Addr} {σ : L2.St} {H : Hp} {vs : List V} {ds : List D} {Q : VK} (hbs : perm.mapM (bs[·]?) = some modes) (S : StRel X.K g env hp m σ H) (r : RepM X.K (Fbd g env σ m) m H bs vs ds)
    (ev : RR (byPerm Y.Γ i perm ds hp) (fun d hp' => ∀ v H' m', StRel X.K g env hp' m' σ H' → Step m H m' H' → Rep X.K (Fbd g env σ m') m' H' v d → Q v H') (XP X.K Y g env σ m H)) : ∃ xs, perm.mapM (vs[·]?) = some xs ∧ spF X.K (Y.Γ.fn i) modes xs H Q (WE Y.W σ) := by
  unfold byPerm at ev
  split at ev
  · rename_i es e
    obtain ⟨ws, hw, rr⟩ := r.perm hbs e
    exact ⟨ws, hw, sp_of S rr ev⟩
  · exact ev.elim
section
variable (tk : Takes X Y.W)
include tk
theorem e_callK {perm : List Nat} {cs2 : List E} {b1 b2 : List Bool} (F : FnG X.prog X.w X.K X.mg X.base (L2.CX X.prog X.w) q k f fd ps (spF X.K (Y.Γ.fn i) modes)) (room : Room k X.A) (hgu : q = true → X.A.guards = some []) (hg : Gl X x) (hm : X.mg x = some (.ref f)) (hk : PySem.W.keepIn X.K (.ref f) = true) (hb : KB X.K fd ps cs.length ks perm)
    (hbs : perm.mapM ((b1 ++ b2)[·]?) = some modes) (hl2 : cs2.length = ks.length)
    (ha : PA X (e :: es) (tMs X.K Y g b1 cs)) (hkw : PK X kws (tMs X.K Y g b2 cs2)) (hall : (backToKw pos (keywordEach kws X.env)).all (·.1.isSome) = true) (hks : (backToKw pos (keywordEach kws X.env)).filterMap (·.1) = ks)
    (hdb : (x == ("__debug__" : Str)) = false) (ns : notStar e = true) (hpl : ((backTo pos (starEach (e :: es) X.env)).any (·.1) || (backToKw pos (keywordEach kws X.env)).any (·.1.isNone)) = false) :
    PE X (.Call (.Name x p) (e :: es) kws pos) (tE X.K Y g (.callK i perm (cs ++ cs2))) :=
  peWeak (pe_callKG F room hgu (passAt tk) hg hm hk hb ha hkw ⟨hall, hks⟩ hdb (star_cons ns es X.env) hpl) fun σ H Q ⟨env, hp, m, S, ev⟩ => by
    have ev := RR.bind (r := evEs reprL Y.Γ (cs ++ cs2) env hp) (f := byPerm Y.Γ i perm) ev
    rw [evEs_append] at ev
    refine ⟨env, hp, m, S, (RR.bind ev).val fun d1 h1 e1 ev vs H1 m1 S1 st1 r1 => ⟨env, h1, m1, S1, ((RR.bind ev).val fun d2 h2 e2 ev zs H2 m2 S2 st2 r2 => ?_).imp (fun _ _ z => z) fun _ _ _ _ x => x.step st1⟩⟩
    obtain ⟨xs, hx, told⟩ := perm_reads hbs S2 ((r1.step S1.at_m st2).append r2) ((show RR (byPerm Y.Γ i perm (d1 ++ d2) h2) _ _ from ev).imp (fun d hp' q v H' m' S' st' r' => q v H' m' S' ((st1.trans st2).trans st') r') fun _ _ _ _ x => x.step (st1.trans st2))
    refine ⟨?_, ?_, xs, hx, told⟩
    · rw [r1.len.1, ← r1.len.2, evEs_len e1]
    · rw [r2.len.1, ← r2.len.2, evEs_len e2, hl2]
theorem e_callK0 {perm : List Nat} (F : FnG X.prog X.w X.K X.mg X.base (L2.CX X.prog X.w) q k f fd ps (spF X.K (Y.Γ.fn i) modes)) (room : Room k X.A) (hgu : q = true → X.A.guards = some []) (hg : Gl X x) (hm : X.mg x = some (.ref f)) (hk : PySem.W.keepIn X.K (.ref f) = true) (hb : KB X.K fd ps 0 ks perm)
    (hbs : perm.mapM (bs[·]?) = some modes) (hl2 : cs.length = ks.length) (hkw : PK X kws (tMs X.K Y g bs cs)) (hall : (backToKw pos (keywordEach kws X.env)).all (·.1.isSome) = true) (hks : (backToKw pos (keywordEach kws X.env)).filterMap (·.1) = ks)
    (hdb : (x == ("__debug__" : Str)) = false) (hpl : ((backTo pos (starEach [] X.env)).any (·.1) || (backToKw pos (keywordEach kws X.env)).any (·.1.isNone)) = false) : PE X (.Call (.Name x p) [] kws pos) (tE X.K Y g (.callK i perm cs)) :=
  peWeak (pe_callKG0 F room hgu (passAt tk) hg hm hk hb hkw ⟨hall, hks⟩ hdb hpl) fun σ H Q ⟨env, hp, m, S, ev⟩ => by
    have ev := RR.bind (r := evEs reprL Y.Γ cs env hp) (f := byPerm Y.Γ i perm) ev
    refine ⟨env, hp, m, S, ev.val fun ds h1 e1 ev zs H2 m2 S2 st2 r2 => ?_⟩
    obtain ⟨xs, hx, told⟩ := perm_reads hbs S2 r2 (ev.imp (fun d hp' q v H' m' S' st' r' => q v H' m' S' (st2.trans st') r') fun _ _ _ _ x => x.step st2)
    exact ⟨by rw [r2.len.1, ← r2.len.2, evEs_len e1, hl2], xs, hx, told⟩
end
end
end Ev
end

section
set_option Elab.async false
set_option linter.all false
set_option maxRecDepth 100000
namespace Ev
open PySem L2 PyProof.Rows
variable [TabList]
/-! ### built-in calls -/
section
variable {X : Cx} {Y : Yd} {g : Gh} {x : Str} {p pos : Pos} {e e2 : Expr} {c c2 : E} {o : Op1} {id : String}
theorem e_b1 (hc : CallR X (.builtin id) (rC1 X.K reprL o)) (hg : Gl X x) (hm : X.mg x = none) (hv : bootBuiltins x = some (.builtin id)) (hn : x ≠ "__name__") (hdb : (x == ("__debug__" : Str)) = false) (h : PE X e (tV X.K Y g c)) (ns : notStar e = true) :
    PE X (.Call (.Name x p) [e] [] pos) (tE X.K Y g (.op1 o c)) :=
  peWeak (pe_callB hc hg hm hv (pa_cons h pa_nil (star_cons ns [] X.env)) hn hdb (star_cons ns [] X.env) rfl) fun σ H Q q => by
    obtain ⟨env, hp, m, S, ev⟩ := sE_op1 q
    exact ⟨env, hp, m, S, ev.imp (fun d hp' q v H1 m1 S1 st1 r1 => ⟨v, rfl, q v H1 m1 S1 st1 r1⟩) fun _ _ _ _ x => x⟩
theorem e_t1 (hc : CallR X (.type id) (rC1 X.K reprL o)) (hg : Gl X x) (hm : X.mg x = none) (hv : bootBuiltins x = some (.type id)) (hn : x ≠ "__name__") (hdb : (x == ("__debug__" : Str)) = false) (h : PE X e (tV X.K Y g c)) (ns : notStar e = true) :
    PE X (.Call (.Name x p) [e] [] pos) (tE X.K Y g (.op1 o c)) :=
  peWeak (pe_callTy hc hg hm hv (pa_cons h pa_nil (star_cons ns [] X.env)) hn hdb (star_cons ns [] X.env) rfl) fun σ H Q q => by
    obtain ⟨env, hp, m, S, ev⟩ := sE_op1 q
    exact ⟨env, hp, m, S, ev.imp (fun d hp' q v H1 m1 S1 st1 r1 => ⟨v, rfl, q v H1 m1 S1 st1 r1⟩) fun _ _ _ _ x => x⟩
theorem e_max2 (hcm : X.calm = true) (hg : Gl X "max") (hm : X.mg "max" = none) (h : PE X e (tV X.K Y g c)) (h2 : PE X e2 (tV X.K Y g c2)) (ns : notStar e = true) (ns2 : notStar e2 = true) : PE X (.Call (.Name "max" p) [e, e2] [] pos) (tE X.K Y g (.op2 .max c c2)) :=
  peWeak (pe_callB (call_max2 hcm) hg hm PyProof.Rows.boot_max (pa_cons h (pa_cons h2 pa_nil (star_cons ns2 [] X.env)) (star_cons ns [e2] X.env)) (by decide) (by decide) (star_cons ns [e2] X.env) (by rw [star_cons ns2]; rfl)) fun σ H Q ⟨env, hp, m, S, ev⟩ => ⟨env, hp, m, S, ev.op2.imp (fun u h1 ev v1 H1 m1 S1 st1 r1 => ⟨env, h1, m1, S1, ev.imp (fun w h2 ⟨u', w', d, d1, d2, ho, q⟩ v2 H2 m2 S2 st2 r2 => by
    cases u' <;> cases w' <;> simp only [o2, reduceCtorEq, Option.some.injEq] at ho
    obtain rfl := deref_int d1
    obtain rfl := deref_int d2
    subst ho
    obtain rfl := r1.v.int_inv
    obtain rfl := r2.v.int_inv
    exact ⟨_, _, rfl, q _ H2 m2 S2 (st1.trans st2) (.int _)⟩) fun _ _ _ _ x => x.step st1⟩) fun _ _ _ _ x => x⟩
theorem e_min2 (hcm : X.calm = true) (hg : Gl X "min") (hm : X.mg "min" = none) (h : PE X e (tV X.K Y g c)) (h2 : PE X e2 (tV X.K Y g c2)) (ns : notStar e = true) (ns2 : notStar e2 = true) : PE X (.Call (.Name "min" p) [e, e2] [] pos) (tE X.K Y g (.op2 .min c c2)) :=
  peWeak (pe_callB (call_min2 hcm) hg hm PyProof.Rows.boot_min (pa_cons h (pa_cons h2 pa_nil (star_cons ns2 [] X.env)) (star_cons ns [e2] X.env)) (by decide) (by decide) (star_cons ns [e2] X.env) (by rw [star_cons ns2]; rfl)) fun σ H Q ⟨env, hp, m, S, ev⟩ => ⟨env, hp, m, S, ev.op2.imp (fun u h1 ev v1 H1 m1 S1 st1 r1 => ⟨env, h1, m1, S1, ev.imp (fun w h2 ⟨u', w', d, d1, d2, ho, q⟩ v2 H2 m2 S2 st2 r2 => by
    cases u' <;> cases w' <;> simp only [o2, reduceCtorEq, Option.some.injEq] at ho
    obtain rfl := deref_int d1
    obtain rfl := deref_int d2
    subst ho
    obtain rfl := r1.v.int_inv
    obtain rfl := r2.v.int_inv
    exact ⟨_, _, rfl, q _ H2 m2 S2 (st1.trans st2) (.int _)⟩) fun _ _ _ _ x => x.step st1⟩) fun _ _ _ _ x => x⟩
/-! isinstance -/
def isaOf : Op1 → Option Str
  | .isTup => some "tuple"
  | .isInt => some "int"
  | .isStr => some "str"
  | .isBool => some "bool"
  | _ => none
theorem rc_isa {T : String} (ho : (o = .isTup ∧ T = "tuple") ∨ (o = .isInt ∧ T = "int") ∨ (o = .isStr ∧ T = "str") ∨ (o = .isBool ∧ T = "bool")) : CallR X (.builtin "isinstance") (fun xs H Q => ∃ x, xs = [x, .ty T] ∧ rO1 X.K reprL o x H Q) := by
  rintro pins s σ H xs us Q I r ⟨x, rfl, Fb, m, d, r', hf, hx, hd, q⟩
  obtain ⟨u, u2, rfl, rx, ry⟩ := vals2 r
  obtain rfl : u2 = .type T := ry
  have pd : D.plain d = true ∧ ∃ b : Bool, r' = .bl b ∧ ((o = .isTup ∧ b = (D.py d).isTuple) ∨ (o = .isInt ∧ b = (D.py d).isInt) ∨ (o = .isStr ∧ b = (D.py d).isStr) ∨ (o = .isBool ∧ b = (D.py d).isBool)) := by
    rcases ho with ⟨rfl, _⟩ | ⟨rfl, _⟩ | ⟨rfl, _⟩ | ⟨rfl, _⟩ <;> simp only [o1, Option.ite_none_right_eq_some, Option.some.injEq] at hd <;> obtain ⟨pd, rfl⟩ := hd <;> refine ⟨pd, _, rfl, ?_⟩ <;> cases d <;> simp [D.isTup, D.isInt, D.isStr, D.isBool, D.py, PyData.isTuple, PyData.isInt, PyData.isStr, PyData.isBool]
  obtain ⟨pd, b, rfl, hb⟩ := pd
  obtain ⟨as, rd⟩ := Dp.reads I _ x u (hx.dp pd) rx
  have fin : ∀ tk, s.toks ≤ tk → EP X pins σ Q (.bool b) { s with toks := tk } := fun tk _ => ⟨.bl b, H, I.tok _, rfl, q _ _ (Evl.Ex.refl _) (.bl _)⟩
  rcases ho with ⟨rfl, rfl⟩ | ⟨rfl, rfl⟩ | ⟨rfl, rfl⟩ | ⟨rfl, rfl⟩ <;> rcases hb with ⟨h, rfl⟩ | ⟨h, rfl⟩ | ⟨h, rfl⟩ | ⟨h, rfl⟩ <;> first | cases h | skip
  · exact PySem.W.isinstance_tuple_data rd fin
  · exact PySem.W.isinstance_int_data rd fin
  · exact PySem.W.isinstance_str_data rd fin
  · exact PySem.W.isinstance_bool_data rd fin
theorem e_isa {T : String} {y : Str} {p2 : Pos} (ho : (o = .isTup ∧ T = "tuple") ∨ (o = .isInt ∧ T = "int") ∨ (o = .isStr ∧ T = "str") ∨ (o = .isBool ∧ T = "bool")) (hg : Gl X "isinstance") (hm : X.mg "isinstance" = none) (hg2 : Gl X y) (hm2 : X.mg y = none) (hv2 : bootBuiltins y = some (.type T)) (hn2 : y ≠ "__name__") (hd2 : (y == ("__debug__" : Str)) = false)
    (h : PE X e (tV X.K Y g c)) (ns : notStar e = true) : PE X (.Call (.Name "isinstance" p) [e, .Name y p2] [] pos) (tE X.K Y g (.op1 o c)) :=
  peWeak (pe_callB (rc_isa ho) hg hm PyProof.Rows.boot_isinstance (pa_cons h (pa_cons (pe_bltn (v := .ty T) hg2 hm2 hv2 rfl hn2 hd2) pa_nil rfl) (star_cons ns _ X.env)) (by decide) (by decide) (star_cons ns _ X.env) rfl) fun σ H Q q => by
    obtain ⟨env, hp, m, S, ev⟩ := sE_op1 q
    exact ⟨env, hp, m, S, ev.imp (fun d hp' q v H1 m1 S1 st1 r1 => ⟨v, rfl, q v H1 m1 S1 st1 r1⟩) fun _ _ _ _ x => x⟩
end
end Ev
end

section
set_option Elab.async false
set_option linter.all false
set_option maxRecDepth 100000
namespace Ev
variable [TabList]
open PySem L2 PyProof.Rows PySem.W
/-! ### sorted(s), s a set of tuples of ints -/
section
variable {P : Program} {w : World}
def tupI (k : List Int) : PyData := .tuple (k.map .int)
theorem reads_ints {h : PySem.Heap} : ∀ {k : List Int} {us : List Value}, ItemsAre (intKind P w) k us → ReadsAll h us (k.map .int) []
  | _, _, .nil => .nil
  | _, _, .cons (k := k0) h1 t => by
    obtain ⟨tk, rfl⟩ := Value.isInt_shape h1
    exact .cons (as := []) (bs := []) (.int k0 tk) (reads_ints t)
theorem reads_tup {h : PySem.Heap} {k : List Int} {b : Addr} (x : IsT P w h k b) : Reads h (.ref b) (tupI k) [] := by
  have ⟨_, _, _, at_, kind, data, all⟩ := x
  exact .tuple at_ kind data (reads_ints all)
/-- a list whose image is a rearrangement of L's image is the image of a rearrangement of L -/
theorem perm_pull {α β : Type} {f : α → β} {xs ys : List β} (h : xs.Perm ys) : ∀ L : List α, ys = L.map f → ∃ L1 : List α, xs = L1.map f ∧ L1.Perm L := by
  induction h with
  | nil => exact fun L e => ⟨[], rfl, by rw [List.map_eq_nil_iff.mp e.symm]⟩
  | cons x _ ih =>
    intro L e
    cases L with
    | nil => cases e
    | cons q L =>
      obtain ⟨L1, f1, f2⟩ := ih L (List.cons.inj e).2
      exact ⟨q :: L1, by rw [f1, (List.cons.inj e).1, List.map_cons], f2.cons q⟩
  | swap x y l =>
    intro L e
    match L, e with
    | q :: r :: L, e =>
      have e1 := List.cons.inj e
      have e2 := List.cons.inj e1.2
      exact ⟨r :: q :: L, by rw [e1.1, e2.1, e2.2, List.map_cons, List.map_cons], .swap q r L⟩
  | trans _ _ ih1 ih2 =>
    intro L e
    obtain ⟨L2, f1, f2⟩ := ih2 L e
    obtain ⟨L1, f3, f4⟩ := ih1 L2 f1
    exact ⟨L1, f3, f4.trans f2⟩
theorem alike_keys : ∀ k k' : List Int, alikeAll (k.map PyData.int) (k'.map PyData.int) = true
  | [], _ => rfl
  | _ :: _, [] => rfl
  | _ :: k, _ :: k' => alike_keys k k'
theorem depth_keys : ∀ k : List Int, PyData.depthAll (k.map PyData.int) = 0
  | [] => rfl
  | _ :: k => (Nat.zero_max _).trans (depth_keys k)
/-- what stands in the one heap stands in the other -/
abbrev Keeps (h h' : PySem.Heap) : Prop := ∀ b o, h.get? b = some o → h'.get? b = some o
/-- the order in which tuples of ints are sorted -/
abbrev leQ (x y : Addr × List Int) : Bool := !dataLt (tupI y.2) (tupI x.2)
abbrev refsQ (L : List (Addr × List Int)) : List Value := L.map fun q => Value.ref q.1
theorem each_refs {R : Value → Addr × List Int → Prop} : ∀ {L : List (Addr × List Int)}, (∀ q ∈ L, R (.ref q.1) q) → EachIs R (refsQ L) L
  | [], _ => .nil
  | _ :: _, h => .cons (h _ List.mem_cons_self) (each_refs fun q hq => h q (List.mem_cons_of_mem _ hq))
theorem refs_each {us : List Value} {L : List (Addr × List Int)} (h : EachIs (fun v (q : Addr × List Int) => v = .ref q.1) us L) : us = refsQ L := by
  induction h with
  | nil => rfl
  | cons e _ ih => exact congr (congrArg _ e) ih
/-- what sorted(s) leaves: a list at the top, of the set's tuples in their order -/
structure SortedSet (s z : Shared) (L : List (Addr × List Int)) (p : Addr) : Prop where
  keeps : Keeps s.heap z.heap
  gens : z.gens = s.gens
  os : z.os = s.os
  top : s.heap.objs.size ≤ p
  list : ∃ (L1 : List (Addr × List Int)) (c : Nat), L1.Perm L ∧ z.heap.get? p = some (seqObj "list" (refsQ (L1.mergeSort leQ)).toArray c)
theorem sorted_set_tuples {A : Around} {a : Addr} {L : List (Addr × List Int)} {rows : Array (Int × Value)} {age : Nat} {tab : SetTable} {s : Shared} {Q E : Value → Shared → Prop} (calm : A.handled = none) (room : A.units + 4 < cLine)
    (R : SetTR P w s.heap a L rows age tab) (q : ∀ z p, SortedSet s z L p → Q (.ref p) z) : wpAny (model P w) A (call (.builtin "sorted") [.ref a]) Q E s := by
  have image : rows.toList.map (·.2) = refsQ L := by
    rw [R.rows]
    exact List.map_map
  have scan : rows.size < scanBound := by
    have n := congrArg List.length image
    rw [List.length_map, List.length_map, Array.length_toList] at n
    have f := R.few
    unfold scanBound
    omega
  obtain ⟨ob, at_, exact_, data⟩ := R.ob
  refine sorted_from (C := fun vs z => Keeps s.heap z.heap ∧ s.heap.objs.size ≤ z.heap.objs.size ∧ z.gens = s.gens ∧ z.os = s.os ∧ vs.Perm (refsQ L))
    (collect_set (A := A.in1) calm ⟨ob, at_, exact_.1, data⟩ R.fits scan R.tab.ris R.led fun z vs k up g o pm => ⟨k, up, g, o, image ▸ pm⟩) ?_
  rintro vs z ⟨k, up, g, o, pm⟩
  obtain ⟨L1, rfl, p1⟩ := perm_pull pm L rfl
  have few : (refsQ L1).length ≤ sizeLine := by
    have f := R.few
    rw [List.length_map, p1.length_eq, sizeLine_eq]
    omega
  generalize hHP : sortingHeap (laidOut z (refsQ L1)) z.heap.objs.size (refsQ L1) = HP
  have reads : EachIs (fun v (q : Addr × List Int) => ∃ as, Reads HP v (tupI q.2) as) (refsQ L1) L1 := each_refs fun q hq =>
    ⟨[], reads_tup (P := P) (w := w) (isT_keep (R.tup q (p1.mem_iff.mp hq)) fun b u e => hHP ▸ (laid_keeps (k b u e)).1)⟩
  have alikes : AllAlike (L1.map fun q => tupI q.2) := fun d hd e he => by
    obtain ⟨x, _, rfl⟩ := List.mem_map.mp hd
    obtain ⟨y, _, rfl⟩ := List.mem_map.mp he
    exact alike_keys x.2 y.2
  have er : EachIs (fun v d => ∃ as, Reads HP v d as) (refsQ L1) (L1.map fun q => tupI q.2) := PySem.W.each_map (R := fun v d => ∃ as, Reads HP v d as) (fun q : Addr × List Int => tupI q.2) reads
  have S : SortsAt P w A.in1.in1 { z with heap := HP } (dataKind HP (L1.map fun q => tupI q.2)) (refsQ L1) := sorts_tup (s := { z with heap := HP }) er alikes (fun d hd => by
    obtain ⟨x, _, rfl⟩ := List.mem_map.mp hd
    exact ⟨_, rfl⟩) fun d hd => by
      obtain ⟨x, _, rfl⟩ := List.mem_map.mp hd
      have two : A.in1.in1.units = A.units + 2 := rfl
      have one : (tupI x.2).depth = 0 + 1 := congrArg (· + 1) (depth_keys x.2)
      omega
  refine ⟨few, _, S, q _ _ ⟨fun b u e => (laid_keeps (k b u e)).2 _, g, o, up, L1, ?_⟩⟩
  have key := each_of_map (fun q : Addr × List Int => tupI q.2) (each_keys alikes er)
  have srt := sortVals_each (κ := dataKind HP (L1.map fun q => tupI q.2)) (rev := false) (fun q : Addr × List Int => (keyToks (tupI q.2) : (dataKind HP (L1.map fun q => tupI q.2)).α)) (each_refs (R := fun v q => v = .ref q.1) fun _ _ => rfl) key
  obtain ⟨c, at_p⟩ := sortedHeap_at (h := laidOut z (refsQ L1)) (a := z.heap.objs.size) (n := 0) (vs := refsQ L1) (out := (sortVals (dataKind HP (L1.map fun q => tupI q.2)) false (refsQ L1) (refsQ L1)).toArray) (Heap.get?_push_size _ rfl)
  exact ⟨c, p1, by rw [at_p, refs_each srt]; rfl⟩
end
end Ev
end

section
set_option Elab.async false
set_option linter.all false
set_option maxRecDepth 100000
namespace Ev
variable [TabList]
open PySem PySem.Spec L2 PyProof.Rows
/-! ### set(x), x a list or a tuple -/
section
variable {P : Program} {w : World} {s : Shared} {A : Around}
/-- a class is called: its new one is made, then filled -/
theorem class_call {T newId initId : String} (ft : TypeCalled T newId initId) {args : List Value} (takes : checkTypeCall T ⟨args, []⟩ = pure ()) {Made : Value → Shared → Prop} {Q E : Value → Shared → Prop}
    (new : wpAny (model P w) A.in1 (call (.builtin newId) (.type T :: args)) Made E s)
    (fill : ∀ v z, Made v z → z.TypeIs v T ∧ wpAny (model P w) A.in1 (call (.builtin initId) (v :: args)) (fun r y => r = .none ∧ Q v y) E z) : wpAny (model P w) A (call (.type T) args) Q E s := by
  have enter : wpAny (model P w) A.in1 (Builtin.«type.__call__» ⟨.type T :: args, []⟩) (fun f z => ∃ v, f = .done (.ret v) ∧ Q v z) E s := by
    obtain ⟨c, tl, order⟩ := ft.mro
    unfold Builtin.«type.__call__»; dsimp only
    rw [if_neg (Bool.eq_false_iff.mp ft.notType), if_neg (Bool.eq_false_iff.mp ft.canCreate)]
    refine wpAny_bind (wpAny_of_eq takes (wpAny_bind (wpAny_of_eq order ?_)))
    rw [if_neg (fun h => by cases h)]
    refine wpAny_bind (wpAny_of_eq ft.made (wpAny_bind (wpAny_pure (wpAny_bind (wpAny_holding (wpAny_mono new (fun v z m => ?_) fun _ _ e => e))))))
    obtain ⟨type, go⟩ := fill v z m
    refine wpAny_bind (wpAny_isInstance type ft.sub ?_)
    rw [if_neg (by decide)]
    refine wpAny_bind (wpAny_holding (wpAny_callSpecial?_slot type ft.init (wpAny_mono go (fun r y h => ?_) fun _ _ e => e)))
    obtain ⟨rfl, q⟩ := h
    exact wpAny_pure ⟨v, rfl, q⟩
  refine wpAny_call (codeAny_of_tree (wpAny_pure ⟨Code.quiet_builtin _ (by decide +kernel), codeAny_builtin F.entry_type_call ?_⟩))
  have free := Around.under_plain (A := A) (weight_type_call_type T args []) rfl
  refine free ▸ wpAny_mono enter (fun f z h => ?_) fun _ _ e => e
  obtain ⟨v, rfl, q⟩ := h
  exact q
/-- a set that has just been made -/
abbrev newSet0 (w : World) : Obj := { cls := .type "set", dict := none, data := .set #[] 0 (.fresh 0 0 (!w.params.followText "set-order")) }
/-- the heap with it -/
abbrev withSet (w : World) (s : Shared) : PySem.Heap := s.heap.push (newSet0 w)
/-- list or tuple: what a walk over it begins with -/
inductive Seq2 : (T : String) → Addr → Obj → Prop where
  | list (l : Addr) : Seq2 "list" l { cls := .type "list_iterator", data := .fields #[.ref l, .int 0 0] }
  | tuple (l : Addr) : Seq2 "tuple" l { cls := .type "tuple_iterator", data := .fields #[.ref l, .int 0 0] }
/-- it is such, and holds its -/
def Holds2 (h : PySem.Heap) (T : String) (l : Addr) (its : Array Value) : Prop := ∃ o n, h.get? l = some o ∧ o.cls = .type T ∧ o.data = .seq its n
theorem Holds2.push {h : PySem.Heap} {T : String} {l : Addr} {its : Array Value} (x : Holds2 h T l its) (o' : Obj) : Holds2 (h.push o') T l its := by
  obtain ⟨o, n, e, r⟩ := x
  exact ⟨o, n, Heap.get?_push_of_some _ e, r⟩
theorem iter2 {T : String} {l : Addr} {it : Obj} {its : Array Value} (k : Seq2 T l it) {z : Shared} {A' : Around} {Q E : Value → Shared → Prop} (x : Holds2 z.heap T l its) (q : Q (.ref z.heap.objs.size) { z with heap := z.heap.push it }) :
    wpAny (model P w) A' (pyIter (.ref l)) Q E z := by
  obtain ⟨o, n, e, c, d⟩ := x
  cases k with
  | list => exact wpAny_pyIter_list ⟨o, e, c, n, d⟩ q
  | tuple => exact wpAny_pyIter_tuple ⟨o, e, c, n, d⟩ q
/-- set(x) is called -/
abbrev MakesSet (P : Program) (w : World) (A : Around) (l : Addr) (Q E : Value → Shared → Prop) (s : Shared) : Prop := wpAny (model P w) A (call (.type "set") [.ref l]) Q E s
/-- what a walk over a tuple, a list begins with -/
abbrev tupleWalk (l : Addr) : Obj := { cls := .type "tuple_iterator", data := .fields #[.ref l, .int 0 0] }
abbrev listWalk (l : Addr) : Obj := { cls := .type "list_iterator", data := .fields #[.ref l, .int 0 0] }
/-- all of set(x) but the loop that adds the items -/
theorem set_from {T : String} {l : Addr} {it : Obj} {its : Array Value} {Z : Shared → Prop} {Q E : Value → Shared → Prop} (k : Seq2 T l it) (x : Holds2 s.heap T l its)
    (loop : ∀ R : Result → Shared → Prop, (∀ z, Z z → R (.ok (.ret .none)) z) → codeAny (model P w) A.in1.in1 (.builtin "set.update.loop" ⟨[.ref s.heap.objs.size, .ref (withSet w s).objs.size], []⟩) R { s with heap := (withSet w s).push it })
    (q : ∀ z, Z z → Q (.ref s.heap.objs.size) z) : wpAny (model P w) A (call (.type "set") [.ref l]) Q E s := by
  have made : (withSet w s).get? s.heap.objs.size = some (newSet0 w) := Heap.get?_push_size _ rfl
  have there : Holds2 (withSet w s) T l its := x.push _
  have run : wpAny (model P w) A.in1.in1 (Builtin.«set.__init__» ⟨[.ref s.heap.objs.size, .ref l], []⟩) (fun f z => f = .done (.ret .none) ∧ Q (.ref s.heap.objs.size) z) E { s with heap := withSet w s } := by
    have walk : ∀ {A' : Around} {Q' E' : Value → Shared → Prop}, Q' (.ref (withSet w s).objs.size) { s with heap := (withSet w s).push it } → wpAny (model P w) A' (pyIter (.ref l)) Q' E' { s with heap := withSet w s } := fun h => iter2 k there h
    have type : Shared.TypeIs { s with heap := withSet w s } (.ref l) T := let ⟨o, _, at_, c, _⟩ := there; ⟨o, at_, c⟩
    have self : Shared.TypeIs { s with heap := withSet w s } (.ref s.heap.objs.size) "set" := ⟨_, made, rfl⟩
    have other : isSubtype (.type T) (.type "set") = pure false ∧ isSubtype (.type T) (.type "frozenset") = pure false ∧ (Value.type T == Value.type "dict") = false := by
      cases k
      · exact ⟨F.sub_list_set, F.sub_list_frozenset, by decide⟩
      · exact ⟨F.sub_tuple_set, F.sub_tuple_frozenset, by decide⟩
    have fill : wpAny (model P w) A.in1.in1 (Builtin.Frozenset.updateFrom "set.__init__" s.heap.objs.size (.ref l)) (fun _ z => Q (.ref s.heap.objs.size) z) E { s with heap := withSet w s } := by
      have none_of_them : wpAny (model P w) A.in1.in1 (Builtin.Frozenset.isAnySet (.ref l)) (fun b z => b = false ∧ z = { s with heap := withSet w s }) E { s with heap := withSet w s } :=
        wpAny_bind (wpAny_isInstance type other.1 (wpAny_isInstance type other.2.1 ⟨rfl, rfl⟩))
      refine wpAny_bind (wpAny_mono none_of_them (fun b z h => ?_) fun _ _ e => e)
      obtain ⟨rfl, rfl⟩ := h
      rw [if_neg (by decide)]
      refine wpAny_bind (wpAny_typeOf type ?_)
      rw [if_neg (Bool.eq_false_iff.mp other.2.2)]
      exact wpAny_bind (walk (wpAny_bind (wpAny_runValue (loop _ fun z h => wpAny_pure (q z h)))))
    unfold Builtin.«set.__init__» noKeywords
    generalize Builtin.Frozenset.updateFrom = update at fill ⊢
    wp_walk
    exact wpAny_mono fill (fun _ z h => wpAny_pure ⟨rfl, h⟩) fun _ _ e => e
  refine class_call F.called_set (F.typeCall_set_1 _) (Made := fun v z => v = .ref s.heap.objs.size ∧ z = { s with heap := withSet w s }) (wpAny_call (codeAny_mono (code_set_led1 _ ⟨rfl, rfl⟩) fun _ _ h => h)) ?_
  rintro _ _ ⟨rfl, rfl⟩
  refine ⟨⟨_, made, rfl⟩, wpAny_call (codeAny_call_builtin F.called_set.init.plain F.entry_set_init (check_set_init_1 ⟨_, made, rfl⟩ (wpAny_mono run (fun f z h => ?_) fun _ _ e => e)))⟩
  obtain ⟨rfl, h⟩ := h
  exact ⟨rfl, h⟩
/-- below the new set nothing is moved -/
theorem below {w : World} {s : Shared} {b : Addr} (h : b < s.heap.objs.size) : b ≠ s.heap.objs.size ∧ b ≠ (withSet w s).objs.size := by
  have up : (withSet w s).objs.size = s.heap.objs.size + 1 := Heap.size_push ..
  exact ⟨Nat.ne_of_lt h, up ▸ Nat.ne_of_lt (Nat.lt_succ_of_lt h)⟩
theorem no_obj {h : PySem.Heap} {b : Addr} (up : h.objs.size ≤ b) : h.get? b = none := by
  cases e : h.get? b with
  | none => rfl
  | some o => exact (Nat.not_lt.mpr up (Heap.lt_size e)).elim
theorem off_way {w : World} {s : Shared} {l : Addr} (h : l < s.heap.objs.size) : s.heap.objs.size ∉ [(withSet w s).objs.size, l] := fun m => by
  have up : (withSet w s).objs.size = s.heap.objs.size + 1 := Heap.size_push ..
  rw [List.mem_cons, List.mem_singleton, up] at m
  exact m.elim (Nat.ne_of_lt (Nat.lt_succ_self _)) (Nat.ne_of_gt h)
/-- set(x), x a tuple of tuples of ints -/
theorem set_of_tuples {l : Addr} {items : List (Addr × List Int)} {Q E : Value → Shared → Prop} (calm : A.handled = none) (room : A.units + 3 < cLine) (x : s.heap.IsTuple l (refsQ items).toArray) (tups : ∀ p ∈ items, IsT P w s.heap p.2 p.1) (few : items.length < 64)
    (q : ∀ (h' : PySem.Heap) (tk : Nat) (L : List (Addr × List Int)) (rows : Array (Int × Value)) (age : Nat) (tab : SetTable), SetTR P w h' s.heap.objs.size L rows age tab → Got items items.length L → Keeps s.heap h' → Q (.ref s.heap.objs.size) { s with heap := h', toks := tk }) :
    MakesSet P w A l Q E s := by
  have ⟨o, at_, c, n, d⟩ := x
  have lt := Heap.lt_size at_
  have size : (refsQ items).toArray.size = items.length := by rw [List.size_toArray, List.length_map]
  have up : (withSet w s).objs.size = s.heap.objs.size + 1 := Heap.size_push ..
  have set0 : ((withSet w s).push (tupleWalk l)).get? s.heap.objs.size = some (newSet0 w) := Heap.get?_push_of_some _ (Heap.get?_push_size _ rfl)
  refine set_from (it := (tupleWalk l)) (its := (refsQ items).toArray) (.tuple l) ⟨o, n, at_, c, d⟩
    (Z := fun z => ∃ (h' : PySem.Heap) (tk : Nat) (L : List (Addr × List Int)) (rows : Array (Int × Value)) (age : Nat) (tab : SetTable), z = { s with heap := h', toks := tk } ∧ SetTR P w h' s.heap.objs.size L rows age tab ∧ Got items items.length L ∧ Keeps s.heap h') (fun R r => ?_) fun z h => ?_
  · refine set_update_tups (Walks.tuple (A := A.in1.in1.in1) (by simp [calm]) _ l (below lt).2 _).toS s.heap.objs.size (off_way lt) items size few (fun i v h => ?_) s.heap tups (no_obj (Nat.le_refl _)) (fun b hb => no_obj ?_) room (items.length - 0) 0 _ (by rw [size]) (Nat.zero_le _)
      ⟨⟨_, Heap.get?_push_size _ rfl, rfl, rfl⟩, (x.push _).push _⟩ (fun b o e => Heap.get?_push_of_some _ (Heap.get?_push_of_some _ e)) ⟨[], #[], 0, _, setTR_fresh set0, Got.zero items⟩ fun z L rows age tab moved R got keep => r z ?_
    · rw [List.getElem?_toArray, List.getElem?_map] at h
      obtain ⟨p, hp, e⟩ := Option.map_eq_some_iff.mp h
      exact ⟨p, hp, e.symm⟩
    · rw [List.eq_of_mem_singleton hb, up]
      exact Nat.le_succ _
    · refine ⟨z.heap, z.toks, L, rows, age, tab, ?_, R, size ▸ got, keep⟩
      have ⟨g, dr, os⟩ := And.intro moved.gens (And.intro moved.drawn moved.os)
      cases z
      exact congr (congr (congr (congrArg _ g) dr) rfl) os
  · obtain ⟨h', tk, L, rows, age, tab, rfl, R, got, keep⟩ := h
    exact q h' tk L rows age tab R got keep
/-- set(x), x a list of ints -/
theorem set_of_ints {l : Addr} {us : List Value} (is : List Int) {Q E : Value → Shared → Prop} (calm : A.handled = none) (x : s.heap.IsList l us.toArray) (all : IntsAre us is) (few : is.length < 64)
    (q : ∀ (h' : PySem.Heap) (tk c : Nat), SetR w h' s.heap.objs.size (fun j => decide (j ∈ is)) c → c ≤ is.length → Keeps s.heap h' → Q (.ref s.heap.objs.size) { s with heap := h', toks := tk }) :
    MakesSet P w A l Q E s := by
  have ⟨o, at_, c, n, d⟩ := x
  have lt := Heap.lt_size at_
  have size : us.toArray.size = is.length := by rw [List.size_toArray, IntsAre.length all]
  have set0 : ((withSet w s).push (listWalk l)).get? s.heap.objs.size = some (newSet0 w) := Heap.get?_push_of_some _ (Heap.get?_push_size _ rfl)
  refine set_from (it := (listWalk l)) (its := us.toArray) (.list l) ⟨o, n, at_, c, d⟩
    (Z := fun z => ∃ (h' : PySem.Heap) (tk c : Nat), z = { s with heap := h', toks := tk } ∧ SetR w h' s.heap.objs.size (fun j => decide (j ∈ is)) c ∧ c ≤ is.length ∧ Keeps s.heap h') (fun R r => ?_) fun z h => ?_
  · refine set_update_ints (Walks.list (A := A.in1.in1.in1) (by simp [calm]) _ l (below lt).2 _).toS s.heap.objs.size (off_way lt) is size (by unfold scanBound; omega) (fun i v h => ?_) (is.length - 0) 0 _ (by rw [size]) (Nat.zero_le _)
      ⟨⟨_, Heap.get?_push_size _ rfl, rfl, rfl⟩, (x.push _).push _⟩ ⟨0, Nat.le_refl 0, setR_new_at set0⟩ fun z c moved hc R => r z ?_
    · rw [List.getElem?_toArray] at h
      have lt : i < is.length := by
        rw [← IntsAre.length all]
        exact (List.getElem?_eq_some_iff.mp h).choose
      obtain ⟨t, e⟩ := PyProof.Rows.IntsAre.int_at all i v h
      rw [List.getD_eq_getElem?_getD, List.getElem?_eq_getElem lt] at e
      exact ⟨is[i], t, List.getElem?_eq_getElem lt, e⟩
    · refine ⟨z.heap, z.toks, c, ?_, R, size ▸ hc, fun b o e => ?_⟩
      · have ⟨g, dr, os⟩ := And.intro moved.gens (And.intro moved.drawn moved.os)
        cases z
        exact congr (congr (congr (congrArg _ g) dr) rfl) os
      · have apart := below (w := w) (Heap.lt_size e)
        refine moved.heap b o (fun m => ?_) (Heap.get?_push_of_some _ (Heap.get?_push_of_some _ e))
        rcases List.mem_cons.mp m with z | z
        · exact apart.1 z
        · exact apart.2 (List.eq_of_mem_singleton z)
  · obtain ⟨h', tk, c, rfl, R, hc, keep⟩ := h
    exact q h' tk c R hc keep
end
end Ev
end

section
set_option Elab.async false
set_option linter.all false
set_option maxRecDepth 100000
namespace Ev
open PySem PySem.Spec L2 PyProof.Rows PySem.W
/-! ### sorted(set(x)) -/
section
theorem dd_mem {α : Type} [DecidableEq α] {a : α} : ∀ {l : List α}, a ∈ dd l ↔ a ∈ l
  | [] => Iff.rfl
  | x :: l => by
    unfold dd
    split
    · rename_i h
      rw [dd_mem, List.mem_cons]
      exact ⟨.inr, fun z => z.elim (fun e => e ▸ h) id⟩
    · rw [List.mem_cons, List.mem_cons, dd_mem]
theorem dd_nodup {α : Type} [DecidableEq α] : ∀ l : List α, (dd l).Nodup
  | [] => List.nodup_nil
  | x :: l => by
    unfold dd
    split
    · exact dd_nodup l
    · rename_i h
      exact List.nodup_cons.mpr ⟨fun z => h (dd_mem.mp z), dd_nodup l⟩
theorem lt_tri (a b : List Int) : a < b ∨ a = b ∨ b < a := by
  rcases Classical.em (a < b) with h | h
  · exact .inl h
  · rcases Classical.em (b < a) with k | k
    · exact .inr (.inr k)
    · exact .inr (.inl (List.le_antisymm (List.not_lt.mp k) (List.not_lt.mp h)))
theorem leI_total (a b : List Int) : (leI a b || leI b a) = true := by
  unfold leI
  rw [Bool.or_eq_true, Bool.not_eq_true', Bool.not_eq_true', decide_eq_false_iff_not, decide_eq_false_iff_not]
  exact Classical.or_iff_not_imp_left.mpr fun h k => by
    have h := Classical.not_not.mp h
    exact List.lt_irrefl _ (List.lt_trans h k)
theorem leI_le {a b : List Int} : leI a b = true ↔ a ≤ b := by
  unfold leI
  rw [Bool.not_eq_true', decide_eq_false_iff_not]
  exact List.not_lt
theorem leI_trans (a b c : List Int) (h : leI a b = true) (k : leI b c = true) : leI a c = true := leI_le.mpr (List.le_trans (leI_le.mp h) (leI_le.mp k))
theorem leI_anti {a b : List Int} (h : leI a b = true) (k : leI b a = true) : a = b := List.le_antisymm (leI_le.mp h) (leI_le.mp k)
theorem leI_data (a b : List Int) : leI a b = !dataLt (tupI b) (tupI a) := by
  unfold leI
  rw [show dataLt (tupI b) (tupI a) = rowLt (b.map .int) (a.map .int) from dataLt_tuple _ _, dataLt_ints]
/-- the sorted keys, whatever the order in which they came -/
theorem uni_eq {ks : List (List Int)} {L L1 : List (Addr × List Int)} (p : L1.Perm L) (nd : (L.map (·.2)).Nodup) (h1 : ∀ k, k ∈ L.map (·.2) ↔ k ∈ ks) :
    ((L1.mergeSort fun x y => !dataLt (tupI y.2) (tupI x.2)).map fun q => tupD q.2) = ((dd ks).mergeSort leI).map tupD := by
  have e : (L1.mergeSort fun x y => !dataLt (tupI y.2) (tupI x.2)).map (·.2) = (L1.map (·.2)).mergeSort leI := sort_maps (fun q : Addr × List Int => q.2) fun a _ b _ => (leI_data a.2 b.2).symm
  have e2 : ((L1.mergeSort fun x y => !dataLt (tupI y.2) (tupI x.2)).map fun q => tupD q.2) = ((L1.mergeSort fun x y => !dataLt (tupI y.2) (tupI x.2)).map (·.2)).map tupD := by
    rw [List.map_map]
    rfl
  rw [e2, e]
  congr 1
  have nd1 : (L1.map (·.2)).Nodup := ((p.map (·.2)).nodup_iff).mpr nd
  have pm : (L1.map (·.2)).Perm (dd ks) := (List.perm_ext_iff_of_nodup nd1 (dd_nodup ks)).mpr fun k => by rw [(p.map (·.2)).mem_iff, h1, dd_mem]
  refine List.Perm.eq_of_pairwise (le := fun a b => leI a b = true) (fun a b _ _ => leI_anti) (List.pairwise_mergeSort leI_trans leI_total _) (List.pairwise_mergeSort leI_trans leI_total _) ?_
  exact ((List.mergeSort_perm _ _).trans pm).trans (List.mergeSort_perm _ _).symm
theorem ints_uniq {is ns : List Int} (h1 : ns.Pairwise (· < ·)) (h2 : ∀ k, k ∈ ns ↔ k ∈ is) : ns = (dd is).mergeSort fun a b => decide (a ≤ b) := by
  have tot : ∀ a b : Int, (decide (a ≤ b) || decide (b ≤ a)) = true := fun a b => by
    rw [Bool.or_eq_true, decI, decI]
    omega
  have tr : ∀ a b c : Int, decide (a ≤ b) = true → decide (b ≤ c) = true → decide (a ≤ c) = true := fun a b c h k => by
    rw [decI] at h k ⊢
    omega
  have nd : ns.Nodup := h1.imp fun h e => by
    subst e
    exact Int.lt_irrefl _ h
  have pm : ns.Perm (dd is) := (List.perm_ext_iff_of_nodup nd (dd_nodup is)).mpr fun k => by rw [h2, dd_mem]
  refine List.Perm.eq_of_pairwise (le := fun a b : Int => decide (a ≤ b) = true) (fun a b _ _ h k => ?_) (h1.imp fun h => ?_) (List.pairwise_mergeSort tr tot _) (pm.trans (List.mergeSort_perm _ _).symm)
  · rw [decI] at h k
    omega
  · rw [decI]
    omega
variable [TabList]
section
variable {X : Cx} {K : PySem.W.Frag} {Fb : Addr → Prop} {m : List Addr} {H : Hp}
/-- tuples of ints: where they lie -/
theorem keys_rep : ∀ {vs : List V} {ds : List D} {ks : List (List Int)}, RepL K Fb m H vs ds → keys? ds = some ks → ∃ qs : List (Addr × List Int), vs = qs.map (fun q => V.ref q.1) ∧ qs.map (·.2) = ks ∧ ∀ q ∈ qs, SqT K H q.1 (q.2.map V.int)
  | _, _, _, .nil, e => by
    cases e
    exact ⟨[], rfl, rfl, fun q hq => by cases hq⟩
  | _, _, ks, .cons (d := d) (ds := ds) h t, e => by
    obtain ⟨k, e1, e⟩ := Option.bind_eq_some_iff.mp (show (keyI d).bind (fun k => (keys? ds).map (k :: ·)) = some ks from e)
    obtain ⟨ks', e2, rfl⟩ := Option.map_eq_some_iff.mp e
    obtain ⟨qs, f1, f2, f3⟩ := keys_rep t e2
    cases d with
    | tup es =>
      cases h with
      | tup hq r =>
        rename_i a us
        have hu : us = k.map V.int := ints_vs r e1
        subst hu
        refine ⟨(a, k) :: qs, by rw [f1]; rfl, by rw [← f2]; rfl, fun q hm => ?_⟩
        rcases List.mem_cons.mp hm with z | z
        · rw [z]
          exact hq
        · exact f3 q z
    | _ => cases e1
/-- a list or a tuple -/
def Row (K : PySem.W.Frag) (H : Hp) (l : Addr) (vs : List V) : Prop := SqL K H l vs ∨ SqT K H l vs
abbrev vrefs (ks : List (Addr × List Int)) : List V := ks.map fun p => V.ref p.1
/-- tuples of ints, where they lie -/
def AreTups (K : PySem.W.Frag) (H : Hp) (ks : List (Addr × List Int)) : Prop := ∀ p ∈ ks, SqT K H p.1 (p.2.map V.int)
def rSetN (K : PySem.W.Frag) (P : Program) (w : World) : List V → Hp → VK → Prop := fun xs H Q => ∃ l, xs = [V.ref l] ∧
  ((∃ ks, Row K H l (vrefs ks) ∧ AreTups K H ks ∧ ks.length < 64 ∧ ∀ a L, H a = none → L ⊆ ks → ks.map (·.2) ⊆ L.map (·.2) → Q (.ref a) (upd H a (SetTO P w a L))) ∨
   ∃ is : List Int, Row K H l (is.map V.int) ∧ is.length < 64 ∧ ∀ a n, H a = none → n < 64 → Q (.ref a) (upd H a (SetO w a (fun j => decide (j ∈ is)) n)))
/-- a new object is what an expression yields -/
theorem yields_new {pins : List (Addr × Obj)} {σ : L2.St} {s : Shared} {Q : VK} {o : HO} {h' : PySem.Heap} {tk : Nat} (I : L2.Inv X pins σ H s) (keep : Keeps s.heap h') (ok : ObjOk X.prog X.w (upd H s.heap.objs.size o) h' s.heap.objs.size o)
    (q : H s.heap.objs.size = none → Q (.ref s.heap.objs.size) (upd H s.heap.objs.size o)) : EP X pins σ Q (.ref s.heap.objs.size) { s with heap := h', toks := tk } :=
  ⟨.ref s.heap.objs.size, _, I.laid keep (Nat.le_refl _) ok, rfl, q (I.hok.fresh (Nat.le_refl _))⟩
theorem cr_setN (hc : X.calm = true) (hu : X.A.units + 64 < cLine) : CallR X (.type "set") (rSetN X.K X.prog X.w) := by
  rintro pins s σ H _ us Q I r ⟨l, rfl, h⟩
  have calm := I.ok.hd hc
  rw [Vals.ref1 r]
  rcases h with ⟨ks, row, tups, few, q⟩ | ⟨is, row, few, q⟩
  · have here : ∀ p ∈ ks, IsT X.prog X.w s.heap p.2 p.1 := fun p hp => I.isT (tups p hp)
    have out : ∀ (h' : PySem.Heap) (tk : Nat) (L : List (Addr × List Int)) (rows : Array (Int × Value)) (age : Nat) (tab : SetTable), SetTR X.prog X.w h' s.heap.objs.size L rows age tab → Got ks ks.length L → Keeps s.heap h' → EP X pins σ Q (.ref s.heap.objs.size) { s with heap := h', toks := tk } :=
      fun h' tk L rows age tab R got keep => yields_new I keep (setTO_new R.t0) fun free => q _ L free (fun p hp => List.mem_of_mem_take (got.sub p hp)) fun k hk => by
        obtain ⟨p, hp, rfl⟩ := List.mem_map.mp hk
        exact got.all p (by rw [List.take_length]; exact hp)
    rcases row with row | row
    · have ⟨its, rv, cell, _⟩ := I.list row
      exact call_set_tups ks calm cell.isList (by rw [List.toList_toArray]; exact refs_of_vals rv) here few (by omega) out
    · have ⟨its, rv, cell, _⟩ := I.tuple row
      refine set_of_tuples calm (by omega) ?_ here few out
      rw [← show its = refsQ ks from refs_of_vals rv]
      exact cell
  · have out : ∀ (h' : PySem.Heap) (tk c : Nat), SetR X.w h' s.heap.objs.size (fun j => decide (j ∈ is)) c → c ≤ is.length → Keeps s.heap h' → EP X pins σ Q (.ref s.heap.objs.size) { s with heap := h', toks := tk } :=
      fun h' tk c R hc keep => yields_new I keep (setO_new R) fun free => q _ c free (Nat.lt_of_le_of_lt hc few)
    rcases row with row | row
    · have ⟨its, rv, cell, _⟩ := I.list row
      exact set_of_ints is calm cell.isList rv.ints few out
    · have ⟨its, rv, cell, _⟩ := I.tuple row
      exact call_set_tupI is calm cell (by rw [List.toList_toArray]; exact rv.ints) (by unfold scanBound; omega) out
/-- sorted(s), s such a set -/
def rSrtN (K : PySem.W.Frag) (P : Program) (w : World) : List V → Hp → VK → Prop := fun vs H Q => ∃ a, vs = [V.ref a] ∧
  ((∃ L, H a = some (SetTO P w a L) ∧ AreTups K H L ∧ ∀ (L1 : List (Addr × List Int)) (p : Addr), L1.Perm L → (L.map (·.2)).Nodup → H p = none → Q (.ref p) (upd H p (.lst (vrefs (L1.mergeSort leQ))))) ∨
   rSortedSet w vs H Q)
theorem cr_srtN (hc : X.calm = true) (hu : X.A.units + 64 < cLine) : CallR X (.builtin "sorted") (rSrtN X.K X.prog X.w) := by
  rintro pins s σ H _ us Q I r ⟨a, rfl, ⟨L, set, tups, q⟩ | plain⟩
  · obtain ⟨rows, age, tab, R⟩ := SetT0.full (I.hok a _ set).1 fun p hp => I.isT (tups p hp)
    rw [Vals.ref1 r]
    refine sorted_set_tuples (I.ok.hd hc) (by omega) R fun z p done => ?_
    obtain ⟨L1, c, pm, at_p⟩ := done.list
    have free : H p = none := I.hok.fresh done.top
    have few : (vrefs (L1.mergeSort leQ)).length ≤ sizeLine := by
      have f := R.few
      rw [List.length_map, List.length_mergeSort, pm.length_eq, sizeLine_eq]
      omega
    have laid := I.call' (ch := []) (H' := upd H p (.lst (vrefs (L1.mergeSort leQ)))) done.os (Un.laid done.keeps done.top free) (I.hok.laid done.keeps done.top ⟨few, _, c, vals_of_refs _, at_p⟩) (done.gens ▸ I.bare) nofun
    exact ⟨.ref p, _, laid, rfl, q L1 p pm R.nd free⟩
  · exact cr_sortedSet hc pins s σ H _ us Q I r plain
end
section
variable {X : Cx} {Y : Yd} {g : Gh} {K : PySem.W.Frag} {Fb : Addr → Prop} {m : List Addr} {H : Hp}
theorem ints_reps : ∀ ns : List Int, RepL K Fb m H (ns.map V.int) (ns.map D.int)
  | [] => .nil
  | _ :: ns => .cons (.int _) (ints_reps ns)
theorem refs_reps : ∀ qs : List (Addr × List Int), (∀ q ∈ qs, SqT K H q.1 (q.2.map V.int)) → RepL K Fb m H (qs.map fun q => V.ref q.1) (qs.map fun q => tupD q.2)
  | [], _ => .nil
  | q :: qs, h => .cons (.tup (h q List.mem_cons_self) (ints_reps q.2)) (refs_reps qs fun r hr => h r (List.mem_cons_of_mem _ hr))
theorem ext_upd {a : Addr} {o : HO} (h : H a = none) : Ext H (upd H a o) := fun b u e => by
  rw [upd_ne fun z => by rw [z, h] at e; cases e]
  exact e
theorem uni_step {v : V} {x r : D} {Q : VK} (P : Program) (w : World) (hf : ∀ a, Fb a → H a ≠ none) (hx : RepV K Fb m H v x) (ho : o1 reprL .sset x = some r) (qq : ∀ v H', Ext H H' → Rep K Fb m H' v r → Q v H') :
    rSetN K P w [v] H fun u H2 => rSrtN K P w [u] H2 Q := by
  have key : ∀ (a : Addr) (vs : List V) (ds es : List D), v = .ref a → uniL ds = some es → r = .lst es → RepL K Fb m H vs ds → (SqL K H a vs ∨ SqT K H a vs) → rSetN K P w [v] H fun u H2 => rSrtN K P w [u] H2 Q := by
    rintro a vs ds es rfl hu rfl rv hs
    unfold uniL at hu
    split at hu
    · rename_i hl
      have hvl : vs.length < 64 := by rw [rv.length]; exact hl
      split at hu
      · rename_i is hi
        obtain rfl := Option.some.inj hu
        have e := ints_vs rv hi
        subst e
        refine ⟨a, rfl, .inr ⟨is, hs, by simpa using hvl, fun b n hb hn => ⟨b, rfl, .inr ⟨b, _, n, rfl, upd_same .., hn, fun ns p pw mem len hp => ?_⟩⟩⟩⟩
        have hpH : H p = none := by
          cases q : H p with
          | none => rfl
          | some o =>
            rw [ext_upd hb p o q] at hp
            cases hp
        refine qq _ _ (fun b' u e => ext_upd hp b' u (ext_upd hb b' u e)) ?_
        rw [← ints_uniq pw fun k => by rw [mem k, decI]]
        exact rep_new_lst (fun a h => has_upd (hf a h)) hp (ints_reps ns)
      · obtain ⟨ks, hk, rfl⟩ := Option.map_eq_some_iff.mp hu
        obtain ⟨qs, rfl, f2, f3⟩ := keys_rep rv hk
        refine ⟨a, rfl, .inl ⟨qs, hs, f3, by simpa using hvl, fun b L hb s1 s2 => ⟨b, rfl, .inl ⟨L, upd_same .., fun q hq => Evl.ex_t (ext_upd hb) (f3 q (s1 hq)), fun L1 p pm nd hp => ?_⟩⟩⟩⟩
        refine qq _ _ (fun b' u e => ext_upd hp b' u (ext_upd hb b' u e)) ?_
        rw [← uni_eq (ks := ks) pm nd fun k => ?_]
        · refine rep_new_lst (fun a h => has_upd (hf a h)) hp (refs_reps _ fun q hq => ?_)
          have h1 : q ∈ L := pm.mem_iff.mp ((List.mergeSort_perm _ _).mem_iff.mp hq)
          exact Evl.ex_t (ext_upd hb) (f3 q (s1 h1))
        · rw [← f2]
          refine ⟨fun h => ?_, fun h => s2 h⟩
          obtain ⟨q, hq, e⟩ := List.mem_map.mp h
          exact List.mem_map.mpr ⟨q, s1 hq, e⟩
    · cases hu
  cases x with
  | lst ds =>
    obtain ⟨es, hs, rfl⟩ := Option.map_eq_some_iff.mp (show (uniL ds).map D.lst = some r from ho)
    obtain ⟨a, vs, rfl, hv, rv⟩ := hx.lst_inv
    exact key a vs ds es rfl hs rfl rv (.inl hv)
  | tup ds =>
    obtain ⟨es, hs, rfl⟩ := Option.map_eq_some_iff.mp (show (uniL ds).map D.lst = some r from ho)
    obtain ⟨a, vs, rfl, hv, rv⟩ := hx.tup_inv
    exact key a vs ds es rfl hs rfl rv (.inr hv)
  | _ => cases ho
theorem e_sset {e : Expr} {c : E} {p p2 pos pos2 : Pos} (hc : X.calm = true) (hu : X.A.units + 66 < cLine) (hg : Gl X "sorted") (hm : X.mg "sorted" = none) (hg2 : Gl X "set") (hm2 : X.mg "set" = none) (h : PE X e (tV X.K Y g c)) (ns : notStar e = true) :
    PE X (.Call (.Name "sorted" p) [.Call (.Name "set" p2) [e] [] pos2] [] pos) (tE X.K Y g (.op1 .sset c)) :=
  peWeak (pe_callB (cr_srtN hc (by omega)) hg hm (by decide +kernel) (pa_cons (pe_callTy (cr_setN hc (by omega)) hg2 hm2 PyProof.Rows.boot_set (pa_cons h pa_nil (star_cons ns [] X.env)) (by decide) (by decide) (star_cons ns [] X.env) rfl) pa_nil rfl) (by decide) (by decide) rfl rfl) fun σ H Q q => by
    obtain ⟨env, hp, m, S, ev⟩ := sE_op1 q
    refine ⟨env, hp, m, S, ev.imp (fun d hp' q v H1 m1 S1 st1 r1 => ?_) fun _ _ _ _ x => x⟩
    obtain ⟨Fb, m2, x, r, hf, hx, ho, qq⟩ := q v H1 m1 S1 st1 r1
    exact uni_step X.prog X.w hf hx ho qq
end
end
end Ev
end

section
set_option Elab.async false
set_option linter.all false
set_option maxRecDepth 100000
namespace Ev
open PySem PySem.Spec L2 PyProof.Rows
variable [TabList]
/-! ### an error class whose __init__ is super().__init__(text), then attributes from parameters -/
/-- the context of that __init__ -/
abbrev initEnv (qual : Str) (scope : Scope) (L f cda cc : Addr) : PySem.Env := PySem.W.envX qual scope L f (.ref cda) [("__class__", cc)]
abbrev initCx (P : Program) (w : World) (K : PySem.W.Frag) (mg : Str → Option Value) (base : PySem.Heap) (N : List Str) (A : Around) (outer : List PySem.Env) (s : Shared) (H : Hp) (env : PySem.Env) : Cx where
  prog := P
  w := w
  K := K
  mg := mg
  base := base
  A := A.deeper env
  N := N
  s_0 := s
  H_0 := H
  env := env
  outer := outer
  stack := env :: outer
  ex := []
  fn := fun _ => false
  calm := true
  pn := []
  xe := fun _ _ => False
/-- a scope of parameters, super and the class's cell -/
structure InitScope (ps : List Str) (sc : Scope) : Prop where
  kind : sc.kind = .function
  co : sc.isCoroutine = false
  gen : sc.isGenerator = false
  nd : ps.Nodup
  par : ∀ x ∈ ps, sc.names.lookup x = some .local
  nocell : ∀ y ∈ sc.names, y.2 ≠ .cell
  free : ∀ y ∈ sc.names, y.2 = .free → y.1 = "__class__"
  super : sc.names.lookup ("super" : Str) = some .globalImplicit
  cls : sc.names.lookup ("__class__" : Str) = some .free
section
variable {P : Program} {w : World} {K : PySem.W.Frag} {mg : Str → Option Value} {base : PySem.Heap} {A : Around} {outer : List PySem.Env} {s : Shared} {H : Hp}
theorem lookup_mem {x : Str} {u : Value} : ∀ {l : List (Str × Value)}, (l.map (·.1)).Nodup → (x, u) ∈ l → l.lookup x = some u
  | [], _, h => by cases h
  | (y, v) :: l, hn, hm => by
    rw [List.map_cons, List.nodup_cons] at hn
    rcases List.mem_cons.mp hm with z | z
    · cases z
      simp [List.lookup]
    · have ne : (x == y) = false := by
        refine beq_eq_false_iff_ne.mpr fun e => hn.1 ?_
        subst e
        exact List.mem_map.mpr ⟨_, z, rfl⟩
      rw [List.lookup_cons, ne]
      exact lookup_mem hn.2 z
theorem zip_look {ps : List Str} {us : List Value} {i : Nat} {x : Str} {u : Value} (nd : ps.Nodup) (hx : ps[i]? = some x) (hu : us[i]? = some u) : (ps.zip us).reverse.lookup x = some u := by
  have keys : ∀ {ps : List Str} {us : List Value}, ((ps.zip us).map (·.1)).Sublist ps := by
    intro ps us
    induction ps generalizing us with
    | nil => exact List.nil_sublist _
    | cons p ps ih =>
      cases us with
      | nil => exact List.nil_sublist _
      | cons u us => exact ih.cons₂ p
  refine lookup_mem ?_ (List.mem_reverse.mpr (List.mem_of_getElem? (i := i) ?_))
  · rw [List.map_reverse]
    exact List.pairwise_reverse.mpr ((nd.sublist keys).imp fun h => h.symm)
  · rw [List.getElem?_zip_eq_some]
    exact ⟨hx, hu⟩
end
/-- the context stands at its start -/
theorem init_inv {P : Program} {w : World} {K : PySem.W.Frag} {mg : Str → Option Value} {base : PySem.Heap} {A : Around} {outer : List PySem.Env} {s : Shared} {H : Hp} {ps : List Str} {sc : Scope} {qual : Str} {f cda cc : Addr} {us : List Value} {vs : List V} {h₀ : PySem.Heap} {tk : Nat} {o : Option Value}
    (sp : InitScope ps sc) (hd : A.handled = none) (e0 : Env0 P w K mg base A outer s H) (hl : vs.length = ps.length) (r : Vals vs us) (hns : h₀.Ns s.heap.objs.size fun x => (ps.zip us).reverse.lookup x) (kp : ∀ b u, s.heap.get? b = some u → h₀.get? b = some u)
    (hc : base.IsCell cc o) : Inv (initCx P w K mg base ps A outer s H (initEnv qual sc s.heap.objs.size f cda cc)) [] (L2.start ps vs) H { s with heap := h₀, toks := tk } := by
  have one : ∀ {y : Str} {c : Addr}, [(("__class__" : Str), cc)].lookup y = some c → y = "__class__" ∧ c = cc := fun {y c} h => by
    rw [List.lookup_cons] at h
    split at h
    · rename_i e
      exact ⟨eq_of_beq e, (Option.some.inj h).symm⟩
    · cases h
  obtain ⟨oc, hoc, hdc⟩ := hc
  have none0 : H cc = none := (e0.bs cc oc hoc).2
  have nofr : ∀ b : Addr, b ∉ (initCx P w K mg base ps A outer s H (initEnv qual sc s.heap.objs.size f cda cc)).ex := fun b z => by cases z
  refine ⟨⟨e0.mod, sp.kind, rfl, rfl, Nat.le_refl _, fun x y c h1 h2 => ?_, fun x h => ?_, fun x c h _ => ?_, fun _ => hd, Around.frames_deeper e0.frames, .inr ⟨rfl, rfl⟩, fun b z => absurd z (nofr b), e0.bs, e0.bsz, fun b _ _ => nofr b, fun b z => absurd z (nofr b), e0.funs, e0.frf⟩,
    rfl, e0.bare, Un.kept kp, ⟨_, hns, fun i x v h1 h2 h3 => ?_⟩, fun x c h => ?_, e0.hok.fresh (Nat.le_refl _), fun x c h => ?_, fun p hp => ?_, e0.hok.kept kp, ?_⟩
  · rw [(one h1).1, (one h2).1]
  · have h : sc.names.lookup x = some .cell ∨ sc.names.lookup x = some .free := h
    rcases h with h | h
    · exact absurd rfl (sp.nocell _ (PySem.mem_of_lookup h))
    · obtain rfl : x = "__class__" := sp.free _ (PySem.mem_of_lookup h) rfl
      exact ⟨cc, rfl⟩
  · cases (show false = true from h)
  · have hi : i < vs.length := by
      rw [hl]
      exact (List.getElem?_eq_some_iff.mp h1).1
    have hv : vs[i]? = some v := by
      unfold L2.start at h2
      rw [List.getElem?_append_left (by rw [List.length_map]; exact hi), List.getElem?_map] at h2
      cases e : vs[i]? with
      | none =>
        rw [e] at h2
        cases h2
      | some v' =>
        rw [e] at h2
        cases h2
        rfl
    obtain ⟨u, hu, rv⟩ := r.get hv
    exact ⟨u, rv, .inl ⟨sp.par x (List.mem_of_getElem? h1), zip_look sp.nd h1 hu⟩⟩
  · obtain ⟨_, rfl⟩ := one h
    exact ⟨o, oc, kp _ _ (e0.bs _ _ hoc).1, hdc⟩
  · obtain ⟨_, rfl⟩ := one h
    exact none0
  · cases (show p ∈ ([] : List (Addr × Obj)) from hp)
  · show (L2.start ps vs).length = ps.length
    unfold L2.start
    rw [List.length_append, List.length_map, List.length_replicate]
    omega
section
variable {X : Cx} {pins : List (Addr × Obj)} {σ : L2.St} {H : Hp} {s : Shared} {a C u : Addr} {us : List Value} {A : Around} {E : Value → Shared → Prop} {Q : Value → Shared → Prop}
/-- the base's __init__, bound to the error in the making: a call of it tells nothing -/
theorem bound_init (T : OexC X.K C) (I : Inv X pins σ H s) (e : H a = some (exo a C none)) (hu : s.heap.get? u = some (PySem.W.kxs_mw "ValueError.__init__" a)) (hl : us.length ≤ sizeLine) (h : ∀ s', Inv X pins σ H s' → Q .none s') :
    wpAny (model X.prog X.w) A (call (.ref u) us) Q E s := by
  have ⟨nm, q, N, bs, bm, sn, sub, ab, col, dd, k0, k1, k2, k3, k5, hC, _⟩ := T.cls
  have ⟨t1, at_a⟩ := exo_at I.hok e
  have back : ∀ {h' : PySem.Heap} {t2 t' : Nat}, (∀ b o, b ≠ a → s.heap.get? b = some o → h'.get? b = some o) → h'.get? a = some (PySem.W.excObj C t2 none .none) → Q .none { s with heap := h', toks := t' } := fun {h' t2 t'} keep new => by
    have same : upd H a (exo a C none) = H := funext fun b => by
      by_cases z : b = a
      · rw [z, upd_same, e]
      · rw [upd_ne z]
    exact h _ (same ▸ I.write (t' := t') (x := a) (e := a) (o := exo a C none) (by rw [e]; exact True.intro) (.inl rfl) keep ⟨_, new⟩ (exo_ok new))
  have V := F.excBase_ValueError
  refine wpAny_call (codeAny_of_tree (show wpAny _ A.in1 (callAny (.ref u) ⟨us, []⟩) _ _ _ from ?_))
  unfold callAny
  refine wpAny_bind (wpAny_load hu ?_)
  have kind : (Value.type "method-wrapper" == Value.type "method" || Value.type "method-wrapper" == Value.type "builtin_function_or_method" || Value.type "method-wrapper" == Value.type "method-wrapper") = true := by decide
  dsimp only [PySem.W.kxs_mw]
  rw [if_pos kind]
  refine PySem.W.KFB.if_so (by decide) (wpAny_bind (PySem.W.check_bound_init V.toExcCallFacts (I.kIn _ _ hC) at_a rfl (wpAny_bind (wpAny_pure (wpAny_pure ⟨plainId_quiet V.init.plain _, codeAny_builtin V.initEntry ?_⟩)))))
  exact PySem.W.exc_init_tree (t0 := t1) (cls := .ref C) (dv := none) (c2 := .none) (c3 := .none) (b4 := .bool false) at_a hl fun h' keep new _ => back keep new
end
/-- what is written of an error class and its __init__ -/
structure InitF (P : Program) (K : PySem.W.Frag) (mg : Str → Option Value) (C f cda cc : Addr) (qual : Str) (ps : List Str) (sc : Scope) (params : Arguments) (body : List Stmt) (fd : FuncData) : Prop where
  fn : ∃ oc od dV kV doc pm an ct osl, fd = PySem.W.ksFn "__init__" qual params body sc dV kV doc pm an (.ref cda) ct cc ∧ K.lookup f = some ⟨oc, od, .func fd, osl⟩
  co : PySem.W.codeIn K (.ref cda) qual = true
  file : ∃ ccl cdd vs ccs tf, K.lookup cda = some ⟨ccl, cdd, .fields vs, ccs⟩ ∧ vs[2]? = some (.str P.main.file tf)
  cell : ∃ cl cld csl, K.lookup cc = some ⟨cl, cld, .cell (some (.ref C)), csl⟩
  cls : ∃ cd, PySem.W.clsIn K C = some cd ∧ PySem.W.mroIn K C (.ref C) = some true ∧ PySem.W.alongIn K "__init__" ((cd.mro.dropWhile (· != .ref C)).drop 1) = some (some (.builtin "ValueError.__init__"))
  sup : mg "super" = none
  top : (P.main.scope.names.lookup ("super" : Str)).isSome = false
  opq : PySem.W.nsIn K cStatics "thirdparty.any" = some none
  val : PySem.W.subIn K (.ref C) (.type "ValueError") = some true
  oex : OexC K C
  sc : InitScope ps sc
  self : ∃ ar, (params.posonlyargs ++ params.args).head? = some ar ∧ ps[0]? = some ar.arg
section
variable {P : Program} {w : World} {K : PySem.W.Frag} {mg : Str → Option Value} {base : PySem.Heap} {B : Around} {outer : List PySem.Env} {s t : Shared} {H M : Hp} {ps : List Str} {sc : Scope} {qual : Str} {C f cda cc x L : Addr} {params : Arguments} {body stmts : List Stmt} {fd : FuncData} {σ : L2.St}
theorem init_super {p0 p1 p2 p3 p4 p5 : Pos} {m : Str} {j : Nat} (line : (p2.endLine == p4.line) = true) (I0 : InitF P K mg C f cda cc qual ps sc params body fd) (I : Inv (initCx P w K mg base ps B outer t M (initEnv qual sc L f cda cc)) [] σ H s) (h0 : σ[0]? = some (some (.ref x))) (hx : H x = some (exo x C none)) :
    PySem.wpAt (model P w) (B.deeper (initEnv qual sc L f cda cc)) (.func stmts (initEnv qual sc L f cda cc)) (exec (.Expr (.Call (.Attribute (.Call (.Name "super" p0) [] [] p1) "__init__" p2) [.Constant (.str m) j p3] [] p4) p5) (initEnv qual sc L f cda cc))
      (fun fl s' => fl = .next ∧ Inv (initCx P w K mg base ps B outer t M (initEnv qual sc L f cda cc)) [] σ H s') (fun _ _ => False) s := by
  obtain ⟨oc, od, dV, kV, doc, pm, an, ct, osl, rfl, lk⟩ := I0.fn
  obtain ⟨ccl, cdd, vs, ccs, tf, lc, hvs⟩ := I0.file
  obtain ⟨cl, cld, csl, lcell⟩ := I0.cell
  obtain ⟨cd, hcd, hmro, along⟩ := I0.cls
  obtain ⟨ar, har, hself⟩ := I0.self
  have X := I.kIn
  have local_self : sc.names.lookup ar.arg = some .local := I0.sc.par _ (List.mem_of_getElem? hself)
  obtain ⟨mL, hns, reads⟩ := I.loc
  have self_at : mL ar.arg = some (.ref x) := by
    obtain ⟨u, ru, lu⟩ := reads 0 ar.arg (.ref x) hself h0 (.inl local_self)
    obtain rfl : u = Value.ref x := ru
    rcases lu with ⟨_, z⟩ | ⟨z, _⟩
    · exact z
    · have z : sc.names.lookup ar.arg = some .cell ∨ sc.names.lookup ar.arg = some .free := z
      rw [local_self] at z
      rcases z with z | z <;> cases z
  obtain ⟨mb, nb, boot⟩ := I.mod.blt
  obtain ⟨oC, at_C, cls_C⟩ : ∃ oC, s.heap.get? C = some oC ∧ oC.data = .cls cd := by
    unfold PySem.W.clsIn at hcd
    split at hcd
    · rename_i e
      cases hcd
      exact ⟨_, X _ _ e, rfl⟩
    · cases hcd
  obtain ⟨t1, at_x⟩ := exo_at I.hok hx
  have apart : x ≠ C := fun z => by
    obtain ⟨_, _, _, _, _, _, _, _, _, _, _, _, _, _, _, e, _⟩ := I0.oex.cls
    have z2 := (I.bs C _ (I.ok.mod.kin _ _ e)).2
    rw [← z, hx] at z2
    cases z2
  have shape : eval (.Call (.Attribute (.Call (.Name "super" p0) [] [] p1) "__init__" p2) [.Constant (.str m) j p3] [] p4) (initEnv qual sc L f cda cc) = (do
      let ov ← attributeBase (.Call (.Name "super" p0) [] [] p1) "__init__" (initEnv qual sc L f cda cc) (eval (.Call (.Name "super" p0) [] [] p1) (initEnv qual sc L f cda cc))
      standAt p2.atName
      let (fn, first) ← holding [ov] (getMethod ov "__init__" (plainOf (.Call (.Name "super" p0) [] [] p1) (initEnv qual sc L f cda cc)))
      callWith p4 fn first (backTo p4 (starEach [.Constant (.str m) j p3] (initEnv qual sc L f cda cc))) []) := by
    rw [arm_eval_Call]
    congr 1
    funext ov
    congr 1
    funext _
    exact mcall_line rfl line
  have quiet : interactive (initEnv qual sc L f cda cc) = false := by
    unfold interactive
    have k := I0.sc.kind
    simp [k]
  refine PySem.ks_wpAt_Expr_any (PySem.ks_wpAt_MethodCall (he := shape) (PySem.ks_wpAt_super_base (env := initEnv qual sc L f cda cc) I0.sc.super I0.sc.cls rfl rfl (X _ _ lk) rfl har rfl (X _ _ lc) rfl hvs (beq_self_eq_true _) I0.top ?_)) quiet rfl
  refine PySem.W.ks_loadName_global I0.sc.kind I0.sc.super (Calls.loadGlobal_builtin (env := initEnv qual sc L f cda cc) (I.mod.glob.keeps I.bk) I0.sup (nb.keeps I.bk) ((boot _ (by decide +kernel)).trans (by decide +kernel)) ⟨rfl, ?_⟩)
  refine wpAny_loadName_free I0.sc.kind I0.sc.cls rfl ⟨_, X _ _ lcell, rfl⟩ ?_
  refine wpAny_loadName_local I0.sc.kind local_self hns self_at ?_
  refine PySem.ks_wpAny_isType_cls at_C cls_C ⟨rfl, ?_⟩
  obtain ⟨hh, g, d, tk, os⟩ := s
  refine PySem.ks_wpAny_call_super at_C cls_C at_x rfl (fun c z => by cases z) (PySem.W.looks_mroIn X hmro) fun h1 sup k1 => ?_
  have I1 := I.kept (t' := tk) k1
  obtain ⟨t2, at_x1⟩ := exo_at I1.hok hx
  have inst : PySem.W.InstAt h1 x { cls := .ref C, dict := none, data := .fields #[.ref t2, .none, .none, .none, .bool false, .none] } C none := ⟨at_x1, rfl, rfl, trivial⟩
  refine PySem.W.kxs_getMethod PySem.W.kxs_ValueError sup (PySem.W.looks_opaque I1.kIn I0.opq) (l₀ := cd.mro) (fun A Q E s k q => wpAny_bind ((PySem.W.looks_clsIn I1.kIn hcd) A _ E s k (wpAny_pure q))) rfl I1.kIn along (inst.type.andThen (PySem.W.looks_subIn I1.kIn I0.val)) apart rfl ?_
  have keep2 : ∀ b o, h1.get? b = some o → (h1.push (PySem.W.kxs_mw "ValueError.__init__" x)).get? b = some o := fun b o e => Heap.get?_push_of_some _ e
  have I2 := (I1.kept (t' := tk + 1) keep2).pins_of (pins' := [(h1.objs.size, PySem.W.kxs_mw "ValueError.__init__" x)]) fun p hp => by
    obtain rfl := List.mem_singleton.mp hp
    refine ⟨Heap.get?_push_at rfl rfl, I1.hok.fresh (Nat.le_refl _), fun z => ?_, fun z => I1.nofs (Nat.le_refl _) z, fun v z => by cases z⟩
    exact absurd I1.lt (by rw [← z]; exact Nat.lt_irrefl _)
  have args : PA (initCx P w K mg base ps B outer t M (initEnv qual sc L f cda cc)) [.Constant (.str m) j p3] (tCons (tC (.str m)) tNil) := pa_cons pe_str pa_nil
  refine PySem.W.kxs_callWith (i := "ValueError.__init__") (x := x) rfl (Calls.evalArgs_plain (wpAny_mono (args.run p4 _ _ σ H (fun vs H1 => vs = [V.str m] ∧ H = H1) I2 ⟨rfl, rfl⟩) (fun us s3 done => ?_) fun _ _ z => z))
  obtain ⟨vs3, H3, I3, rv, rfl, rfl⟩ := done
  refine ⟨(I3.pin _ (List.mem_singleton.mpr rfl)).1, ?_⟩
  have few : us.length ≤ sizeLine := by
    rw [← Paired.length rv, sizeLine_eq]
    simp
  exact bound_init I0.oex I3 hx (I3.pin _ (List.mem_singleton.mpr rfl)).1 few fun s4 I4 => ⟨rfl, I4.pins_of fun p hp => by cases hp⟩
end
/-! the attributes -/
def okName (x : Str) : Bool := !(x == ("__debug__" : Str)) && !(x == ("__classdict__" : Str))
theorem okName_of {x : Str} (h : okName x = true) : (x == ("__debug__" : Str)) = false ∧ (x == ("__classdict__" : Str)) = false := by
  unfold okName at h
  simpa using h
def chkSup : Stmt → Bool
  | .Expr (.Call (.Attribute (.Call (.Name y _) [] [] _) nm p2) [.Constant (.str _) _ _] [] p4) _ => decide (y = "super") && decide (nm = "__init__") && (p2.endLine == p4.line)
  | _ => false
def chkIni (ps : List Str) : List (Str × Nat) → List Stmt → Bool
  | [], [] => true
  | (f, i) :: l, .Assign [.Attribute (.Name y _) g _] (.Name z _) _ :: sts => decide (ps[0]? = some y) && okName y && decide (g = f) && decide (ps[i]? = some z) && okName z && chkIni ps l sts
  | _, _ => false
def got (l : List (Str × Nat)) (vs : List V) : List (Str × V) := l.map fun p => (p.1, vs.getD p.2 .non)
/-- the error at x has its dict at dx; the fields still to come are l -/
def tSt (C : Addr) (ps : List Str) (vs : List V) (x dx : Addr) (l : List (Str × Nat)) (fs : List (Str × V)) : TS := fun D σ H => σ = L2.start ps vs ∧ H x = some (exo x C (some dx)) ∧ H dx = some (exd dx fs) ∧
  ∀ H', H' x = some (exo x C (some dx)) → H' dx = some (exd dx ((got l vs).reverse ++ fs)) → (∀ b, b ≠ x → b ≠ dx → H' b = H b) → D.nx σ H'
def spI (C : Addr) (ps : List Str) (l : List (Str × Nat)) : Sp := fun vs M Q _ => ∃ x ws, vs = .ref x :: ws ∧ vs.length = ps.length ∧ M x = some (exo x C none) ∧
  ∀ dx M', M dx = none → dx ≠ x → M' x = some (exo x C (some dx)) → M' dx = some (exd dx (got l vs).reverse) → (∀ b, b ≠ x → b ≠ dx → M' b = M b) → Q .non M'
section
variable {P : Program} {w : World} {K : PySem.W.Frag} {mg : Str → Option Value} {base : PySem.Heap} {B : Around} {outer : List PySem.Env} {t : Shared} {M : Hp} {ps : List Str} {sc : Scope} {qual : Str} {C f cda cc x L : Addr} {params : Arguments} {body : List Stmt} {fd : FuncData} {vs : List V}
theorem start_get {i : Nat} {v : V} (h : vs[i]? = some v) : (L2.start ps vs)[i]? = some (some v) := by
  have hi : i < vs.length := (List.getElem?_eq_some_iff.mp h).1
  unfold L2.start
  rw [List.getElem?_append_left (by rw [List.length_map]; exact hi), List.getElem?_map, h]
  rfl
/-- a parameter read -/
theorem par_read {X : Cx} {i : Nat} {y : Str} {p : Pos} (hN : X.N = ps) (sp : InitScope ps X.env.scope) (h : ps[i]? = some y) (ok : okName y = true) : PE X (.Name y p) (tVar i) :=
  pe_var (by rw [hN]; exact h) (.inl (sp.par y (List.mem_of_getElem? h))) (okName_of ok).1 (okName_of ok).2
theorem getD_some {i : Nat} {v : V} (h : vs[i]? = some v) : vs.getD i .non = v := by
  rw [List.getD_eq_getElem?_getD, h]
  rfl
theorem chkIni_cons {f : Str} {i : Nat} {l : List (Str × Nat)} : ∀ {sts : List Stmt}, chkIni ps ((f, i) :: l) sts = true →
    ∃ y pa pb z pc pd r, sts = .Assign [.Attribute (.Name y pa) f pb] (.Name z pc) pd :: r ∧ ps[0]? = some y ∧ okName y = true ∧ ps[i]? = some z ∧ okName z = true ∧ chkIni ps l r = true
  | [], h => by simp [chkIni] at h
  | st :: r, h => by
    cases st <;> first | (exact absurd h Bool.false_ne_true) | skip
    rename_i ts v pd
    match ts, v, h with
    | [.Attribute (.Name y pa) g pb], .Name z pc, h =>
      have h : (decide (ps[0]? = some y) && okName y && decide (g = f) && decide (ps[i]? = some z) && okName z && chkIni ps l r) = true := h
      simp only [andI, decI] at h
      obtain ⟨⟨⟨⟨⟨k1, o1⟩, rfl⟩, k2⟩, o2⟩, k3⟩ := h
      exact ⟨y, pa, pb, z, pc, pd, r, rfl, k1, o1, k2, o2, k3⟩
theorem slot_val {i : Nat} {y : Str} (hv : vs.length = ps.length) (h : ps[i]? = some y) : ∃ v, vs[i]? = some v := by
  have hi : i < vs.length := by
    rw [hv]
    exact (List.getElem?_eq_some_iff.mp h).1
  exact ⟨_, List.getElem?_eq_getElem hi⟩
theorem xd_apart {H : Hp} {d : Option Addr} {fs : List (Str × V)} {dx : Addr} (e1 : H x = some (exo x C d)) (ne : dx ≠ x) {b : Addr} (h : H b = none) : b ≠ x := fun z => by
  rw [z, e1] at h
  cases h
theorem stores_ok {X : Cx} (hN : X.N = ps) (sp : InitScope ps X.env.scope) (T : OexC X.K C) (hv : vs.length = ps.length) (h0 : vs[0]? = some (.ref x)) {dx : Addr} (ne : dx ≠ x) : ∀ {l : List (Str × Nat)} {sts : List Stmt} {fs : List (Str × V)}, chkIni ps l sts = true → (∀ p ∈ l, PySem.W.findIn X.K (.ref C) p.1 = some none) →
    fs.length + l.length ≤ 900 → PSs X sts (tSt C ps vs x dx l fs)
  | [], [], fs, _, _, _ => pssWeak pss_nil fun D σ H ⟨_, e1, e2, q⟩ => q H e1 e2 fun _ _ _ => rfl
  | [], _ :: _, _, h, _, _ => by simp [chkIni] at h
  | (f, i) :: l, sts, fs, h, nf, few => by
    obtain ⟨y, pa, pb, z, pc, pd, r, rfl, k1, o1, k2, o2, k3⟩ := chkIni_cons h
    obtain ⟨v, hvi⟩ := slot_val hv k2
    have few : fs.length + (l.length + 1) ≤ 900 := few
    refine pssWeak (pss_cons (ps_ost (par_read hN sp k1 o1) (par_read hN sp k2 o2) rfl) (stores_ok hN sp T hv h0 ne (fs := (f, v) :: fs) k3 (fun p hp => nf p (List.mem_cons_of_mem _ hp)) (by rw [List.length_cons]; omega))) fun D σ H ⟨e0, e1, e2, q⟩ => ?_
    subst e0
    refine ⟨v, start_get hvi, .ref x, start_get h0, x, C, rfl, T, nf _ List.mem_cons_self, .inr ⟨dx, fs, e1, e2, by omega, rfl, ?_, upd_same .., fun H' a1 a2 a3 => q H' a1 ?_ fun b b1 b2 => ?_⟩⟩
    · rw [upd_ne (Ne.symm ne)]
      exact e1
    · rw [a2]
      unfold got
      rw [List.map_cons, List.reverse_cons, List.append_assoc, getD_some hvi]
      rfl
    · rw [a3 b b1 b2, upd_ne b2]
/-- the first attribute: the dict is made -/
theorem first_ok {X : Cx} (hN : X.N = ps) (sp : InitScope ps X.env.scope) (T : OexC X.K C) (hv : vs.length = ps.length) (h0 : vs[0]? = some (.ref x)) {f : Str} {i : Nat} {l : List (Str × Nat)} {sts : List Stmt} (h : chkIni ps ((f, i) :: l) sts = true) (nf : ∀ p ∈ (f, i) :: l, PySem.W.findIn X.K (.ref C) p.1 = some none)
    (few : l.length ≤ 899) {pins : List (Addr × Obj)} {s : Shared} {H : Hp} {D : Ends} (I : Inv X pins (L2.start ps vs) H s) (e : H x = some (exo x C none))
    (q : ∀ dx H', H dx = none → dx ≠ x → H' x = some (exo x C (some dx)) → H' dx = some (exd dx (got ((f, i) :: l) vs).reverse) → (∀ b, b ≠ x → b ≠ dx → H' b = H b) → D.nx (L2.start ps vs) H') :
    wpAny (model X.prog X.w) X.A (execs sts X.env) (SP X pins D) X.xe s := by
  obtain ⟨y, pa, pb, z, pc, pd, r, rfl, k1, o1, k2, o2, k3⟩ := chkIni_cons h
  obtain ⟨v, hvi⟩ := slot_val hv k2
  have st := ps_ost (f := f) (p' := pb) (pos := pd) (par_read (p := pa) hN sp k1 o1) (par_read (p := pc) hN sp k2 o2) rfl
  refine wpAny_execs_cons (thn (st.run pins s _ H { D with nx := fun σ' H' => σ' = L2.start ps vs ∧ ∃ dx, H dx = none ∧ dx ≠ x ∧ H' = upd (upd H dx (exd dx [(f, v)])) x (exo x C (some dx)) } I ?_) fun fl s1 done => ?_)
  · exact ⟨v, start_get hvi, .ref x, start_get h0, x, C, rfl, T, nf _ List.mem_cons_self, .inl ⟨e, fun dx n ne => ⟨rfl, dx, n, ne, rfl⟩⟩⟩
  · cases fl with
    | next =>
      obtain ⟨_, _, J, rfl, dx, n, ne, rfl⟩ := done
      refine (stores_ok hN sp T hv h0 ne (fs := [(f, v)]) k3 (fun p hp => nf p (List.mem_cons_of_mem _ hp)) (by rw [List.length_singleton]; omega)).run pins s1 _ _ D J ⟨rfl, upd_same .., by rw [upd_ne ne, upd_same], fun H' a1 a2 a3 => q dx H' n ne a1 ?_ fun b b1 b2 => ?_⟩
      · rw [a2]
        unfold got
        rw [List.map_cons, List.reverse_cons, getD_some hvi]
      · rw [a3 b b1 b2, upd_ne b1, upd_ne b2]
    | ret u => exact done
    | brk => exact done
    | cont => exact done
end
section
variable {P : Program} {w : World} {K : PySem.W.Frag} {mg : Str → Option Value} {base : PySem.Heap} {ps : List Str} {sc : Scope} {qual : Str} {C fI cda cc : Addr} {params : Arguments} {fd : FuncData}
theorem chkSup_inv {st : Stmt} (h : chkSup st = true) : ∃ p0 p1 p2 p3 p4 p5 m j, st = .Expr (.Call (.Attribute (.Call (.Name "super" p0) [] [] p1) "__init__" p2) [.Constant (.str m) j p3] [] p4) p5 ∧ (p2.endLine == p4.line) = true := by
  unfold chkSup at h
  split at h
  · simp only [andI, decI] at h
    obtain ⟨⟨rfl, rfl⟩, h⟩ := h
    exact ⟨_, _, _, _, _, _, _, _, rfl, h⟩
  · cases h
/-- the error's __init__ keeps its promise -/
theorem fnInit {CX : CXT} {k : Nat} {st : Stmt} {rest : List Stmt} {f : Str} {i : Nat} {l : List (Str × Nat)} (I0 : InitF P K mg C fI cda cc qual ps sc params (st :: rest) fd) (hst : chkSup st = true) (hl : chkIni ps ((f, i) :: l) rest = true)
    (nf : ∀ p ∈ (f, i) :: l, PySem.W.findIn K (.ref C) p.1 = some none) (few : l.length ≤ 899) : FnOk P w K mg base CX (k + 1) fI fd ps (spI C ps ((f, i) :: l)) := by
  refine ⟨fun vs M Q W ⟨_, _, _, e, _⟩ => e, fun B frs t M args us vs Q W room e0 bound same told => ?_⟩
  obtain ⟨x, ws, rfl, len, hx, q⟩ := told
  obtain ⟨oc, od, dV, kV, doc, pm, an, ct, osl, rfl, lk⟩ := id I0.fn
  obtain ⟨cl, cld, csl, lcell⟩ := I0.cell
  have X : K.In t.heap := e0.mod.kin.keeps fun b o e => (e0.bs b o e).1
  obtain ⟨p0, p1, p2, p3, p4, p5, m, j, rfl, line⟩ := chkSup_inv hst
  refine PySem.ks_codeAny_call_defAt (binds := ps.zip us) room.depth (X _ _ lk) rfl (e0.mod.nolimit.keeps fun b o e => (e0.bs b o e).1) (PySem.W.codeRec_of X I0.co) rfl bound I0.sc.nocell (fun y hy => I0.sc.par _ (List.of_mem_zip hy).1) (fun h₀ hns kp => ?_) I0.sc.co I0.sc.gen I0.sc.kind
  have start := init_inv (cda := cda) (f := fI) (qual := qual) (tk := t.toks + (ps.zip us).length) I0.sc room.hd e0 len same hns kp ⟨_, e0.mod.kin _ _ lcell, rfl⟩
  refine PySem.ks_wpAt_execs_cons (PySem.ks_wpAt_mono (init_super line I0 start (start_get rfl) hx) (fun fl s1 done => ?_) fun _ _ z => z.elim)
  obtain ⟨rfl, I⟩ := done
  refine wpAt_of_wpAny (wpAny_mono (first_ok rfl I0.sc I0.oex len rfl hl nf few I hx (D := { nx := fun _ M' => Q .non M', rt := fun _ _ => False }) fun dx M' n ne a1 a2 a3 => q dx M' n ne a1 a2 a3) (fun fl s2 done => ?_) fun _ _ z => z.elim)
  cases fl with
  | next =>
    obtain ⟨_, M', J, z⟩ := done
    exact ⟨.non, M', J.os, J.bare, J.base, J.hok, rfl, z⟩
  | ret u =>
    obtain ⟨_, _, _, _, _, z⟩ := done
    exact z.elim
  | brk =>
    obtain ⟨_, _, _, z⟩ := done
    exact z.elim
  | cont =>
    obtain ⟨_, _, _, z⟩ := done
    exact z.elim
end
end Ev
end

section
set_option Elab.async false
set_option linter.all false
set_option maxRecDepth 100000
namespace Ev
open PySem PySem.Spec L2 PyProof.Rows
variable [TabList]
/-! ### raise -/
def num : Nat → List Str → List (Str × Nat)
  | _, [] => []
  | i, n :: ns => (n, i) :: num (i + 1) ns
theorem got_num {us : List V} : ∀ {ns : List Str} {i : Nat}, us.length = i + ns.length → got (num i ns) us = ns.zip (us.drop i)
  | [], _, _ => rfl
  | n :: ns, i, h => by
    have hi : i < us.length := by
      rw [h, List.length_cons]
      omega
    rw [List.drop_eq_getElem_cons hi, List.zip_cons_cons, ← got_num (ns := ns) (i := i + 1) (by rw [h, List.length_cons]; omega)]
    show (n, us.getD i .non) :: got (num (i + 1) ns) us = _
    rw [getD_some (List.getElem?_eq_getElem hi)]
theorem zip_rev {α β : Type} : ∀ {as : List α} {bs : List β}, as.length = bs.length → (as.zip bs).reverse = as.reverse.zip bs.reverse
  | [], [], _ => rfl
  | a :: as, b :: bs, h => by
    have h : as.length = bs.length := by simpa using h
    rw [List.zip_cons_cons, List.reverse_cons, List.reverse_cons, List.reverse_cons, zip_rev h, List.zip_append (by simpa using h)]
    rfl
  | [], _ :: _, h => by cases h
  | _ :: _, [], h => by cases h
/-- an error class that may be raised: its attributes are its parameters -/
structure ErrSig where
  name : Str
  idx : Nat
  ns : List Str
  ps : List Str
structure ErrFact (X : Cx) (s : ErrSig) : Prop where
  ex : ∃ k f fd, FnOk X.prog X.w X.K X.mg X.base (L2.CX X.prog X.w) k f fd s.ps (spI (TabList.cls s.idx) s.ps (num 1 s.ns)) ∧ Room (k + 1) X.A ∧ X.mg s.name = some (.ref (TabList.cls s.idx)) ∧ OexC X.K (TabList.cls s.idx) ∧
    PySem.W.findIn X.K (.ref (TabList.cls s.idx)) "__init__" = some (some (.ref f)) ∧ PySem.W.typeIn X.K (.ref f) = some (.type "function") ∧ L2.Binds X.K fd s.ps [] ∧ s.ps.length = s.ns.length + 1
def tEsg (K : PySem.W.Frag) (Y : Yd) (cs : List E) : TA := fun σ H Q => ∃ g : Gh, g.y = Y.y ∧ tEs K Y g cs σ H Q
section
variable {X : Cx} {Y : Yd}
theorem esg {es : List Expr} {cs : List E} (h : ∀ g : Gh, g.y = Y.y → PA X es (tEs X.K Y g cs)) : PA X es (tEsg X.K Y cs) := ⟨fun pos pins s σ H Q I ⟨g, hg, q⟩ => (h g hg).run pos pins s σ H Q I q⟩
theorem s_raise {s : ErrSig} {x : Str} {e : Expr} {es : List Expr} {cs : List E} {p pos pos' : Pos} (hc : X.calm = true) (tk : Takes X Y.W) (F : ErrFact X s) (hx : s.name = x) (hg : Gl X x) (hdb : (x == ("__debug__" : Str)) = false) (ha : ∀ g : Gh, g.y = Y.y → PA X (e :: es) (tEs X.K Y g cs)) (few : cs.length ≤ 1000)
    (ns : notStar e = true) (hpl : (backTo pos (starEach es X.env)).any (·.1) = false) : PS X (.Raise (some (.Call (.Name x p) (e :: es) [] pos)) none pos') (tS X.K Y (.raise s.idx s.ns.reverse cs)) := by
  subst hx
  obtain ⟨k, f, fd, F1, room, hm, T, iC, tI, hb, lps⟩ := F.ex
  refine psWeak (ps_raise hc tk (pmk_oex T iC tI F1 room hb .nil (passes_call (E := fun _ _ _ => False) tk fun _ _ _ _ z => z.elim) hg hm (esg ha) hdb (star_cons ns es X.env) hpl)) fun D σ H ⟨g, env, hp, m, hy, S, fl, hp', ev, q⟩ => ?_
  refine ⟨g, hy, env, hp, m, S, (bindS_RR (r := evEs reprL Y.Γ cs env hp) ev q).val fun ds h1 e1 ev vs H1 m1 S1 st1 r1 => ⟨by rw [r1.length, evEs_len e1]; exact few, fun a na => ?_⟩⟩
  split at ev
  · rename_i hl
    obtain ⟨rfl, rfl⟩ := rok_inj ev
    have hlv : s.ns.length = vs.length := by
      rw [r1.length, ← hl, List.length_reverse]
    refine ⟨a, vs ++ [], rfl, by rw [List.append_nil, List.length_cons, lps, hlv], upd_same .., fun dx M' n ne a1 a2 a3 => ⟨rfl, dx, _, a1, a2, by rwa [upd_ne ne] at n, ?_⟩⟩
    have free : H1 dx = none := by rwa [upd_ne ne] at n
    have same : upd (del M' a) dx (.xd (got (num 1 s.ns) (.ref a :: (vs ++ []))).reverse) = upd H1 dx (.xd (s.ns.reverse.zip vs.reverse)) := by
      rw [List.append_nil, got_num (by rw [List.length_cons, hlv]; omega), List.drop_one, List.tail_cons, zip_rev hlv]
      funext b
      by_cases z : b = dx
      · rw [z, upd_same, upd_same]
      · rw [upd_ne z, upd_ne z]
        by_cases z2 : b = a
        · rw [z2, del_same, na]
        · rw [del_ne z2, a3 b z2 z, upd_ne z2]
    rw [same]
    have ex : Ext H1 (upd H1 dx (.xd (s.ns.reverse.zip vs.reverse))) := Evl.Ex.new free
    refine q σ _ m1 dx vs.reverse (S1.ext ex) (SStep.of (st1.trans (Step.ext ex)) SameOwn.refl) (upd_same ..) (by rw [List.length_reverse, List.length_reverse, hlv]) ?_
    exact (r1.step S1.at_m (Step.ext ex)).reverse
  · cases ev
end
end Ev
end

section
set_option Elab.async false
set_option linter.all false
set_option maxRecDepth 100000
namespace Ev
open PySem PySem.Spec L2 PyProof.Rows
variable [TabList]
/-! ### try, several clauses, each with a name or without -/
/-- the error at a is down on the ground; the state without it is ours -/
structure Down (X : Cx) (pins : List (Addr × Obj)) (σ : L2.St) (H : Hp) (cls : Value) (d : Option Addr) (a : Addr) (s : Shared) : Prop where
  base : ∃ (B : PySem.Heap) (t : Shared), Inv X pins σ H t ∧ (∀ b o, t.heap.get? b = some o → b ∉ frs X.stack → B.get? b = some o) ∧ t.heap.UpToSlots s.heap ∧ HandSPX.FlyingZ B X.stack a (Zc cls d) s.heap ∧ s.os = t.os
  gens : AllBare s.gens
  free : H a = none
section
variable {X : Cx} {pins : List (Addr × Obj)} {σ : L2.St} {H : Hp} {cls c : Value} {d : Option Addr} {a : Addr} {s : Shared}
/-- its flag is written once more -/
theorem Down.again {M : Model} {A : Around} {E : Value → Shared → Prop} {Q : Unit → Shared → Prop} (D : Down X pins σ H cls d a s) (h : ∀ s', Down X pins σ H cls d a s' → Q () s') : wpAny M A (setFlight (.ref a) none) Q E s := by
  obtain ⟨B, t, I, nb, u, f, os⟩ := D.base
  exact HandSPX.lands_againZ f fun h' g v => h _ ⟨⟨B, t, I, nb, u.trans v, g, os⟩, D.gens, D.free⟩
theorem Down.inv (D : Down X pins σ H cls d a s) : Inv X pins σ H s := by
  obtain ⟨B, t, I, nb, u, f, os⟩ := D.base
  exact I.landed nb f.1 u os D.gens
/-- what is seen of it -/
theorem Down.seen (hf : X.env.frame = some X.env.locals) (hs : X.stack = X.env :: X.outer) (D : Down X pins σ H cls d a s) : ∃ oe vs, s.heap.get? a = some oe ∧ Zc cls d oe ∧ oe.data = .fields vs ∧ a ≠ X.env.locals ∧ a ∉ X.fs := by
  obtain ⟨B, t, I, nb, u, f, os⟩ := D.base
  obtain ⟨oe, vs, e, z, data⟩ := f.there
  have off : a ∉ frs X.stack := fun hm => by
    obtain ⟨_, o, e2, nf⟩ := f.2.2.1.mem hm
    rw [e] at e2
    exact nf vs (Option.some.inj e2 ▸ data)
  rw [hs] at off
  refine ⟨oe, vs, e, z, data, fun z => off ?_, fun z => off ?_⟩
  · exact List.mem_filterMap.mpr ⟨X.env, List.mem_cons_self, by rw [hf, z]⟩
  · obtain ⟨q, h1, h2⟩ := List.mem_filterMap.mp z
    exact List.mem_filterMap.mpr ⟨q, List.mem_cons_of_mem _ h1, h2⟩
/-- no clause is for it -/
theorem Down.on {W : WX} {Q : PySem.Flow → Shared → Prop} (hf : X.env.frame = some X.env.locals) (hs : X.stack = X.env :: X.outer) (D : Down X pins σ H cls d a s) (tk : Takes X W) (w : W cls d σ H) : wpAny (model X.prog X.w) X.A (handleBy (.ref a) X.env []) Q X.xe s := by
  obtain ⟨B, t, I, nb, u, f, os⟩ := D.base
  have ⟨_, _, _, oe, vs, T, _, _, e, _, data, tr, _⟩ := f
  refine wpAny_handleBy_nil ?_
  unfold PySem.passOn
  have traced : ¬ ((Value.ref T == Value.none) = true) := by simp
  have out : wpAny (model X.prog X.w) X.A (do setFlight (.ref a) X.env.frame; throw (.ref a)) Q X.xe s := wpAny_bind (by
    rw [hf]
    exact HandSPX.setFlight_upZ f fun h g v => wpAny_throw (tk _ _ ⟨a, B, t, pins, σ, H, cls, d, rfl, I, nb, u.trans v, .inr (.inr (hs ▸ g)), D.free, os, D.gens, w⟩))
  refine wpAny_bind (wpAny_field e data tr ?_)
  rw [if_neg traced]
  first
    | exact out
    | exact wpAny_bind (wpAny_pure out)
/-- does the clause's class match? -/
theorem Down.asks {x : Str} {np : Pos} {b : Bool} {pos : Pos} {R : Result → Shared → Prop} (hf : X.env.frame = some X.env.locals) (hs : X.stack = X.env :: X.outer) (D : Down X pins σ H cls d a s) (hc : Names X x c) (hb : PySem.W.exmOne X.K cls c = some b)
    (h : R (.ok (if b then .brk else .next)) s) : codeAny (model X.prog X.w) (X.A.mark (some (.ref a))) (.handlers (.ref a) [.ExceptHandler (some (.Name x np)) none [] pos] X.env) R s := by
  obtain ⟨oe, vs, e, z, data, nl, nf⟩ := D.seen hf hs
  have S := D.inv.suite e data D.free nl nf
  have type : PySem.W.Looks (model X.prog X.w) s.heap (typeOf (.ref a)) cls := fun A Q E t k q => wpAny_typeOf_ref (k _ _ e) (by rw [z.1]; exact q)
  have here := (PySem.W.exm_one (M := model X.prog X.w) D.inv.kIn type hb).here (A := X.A.mark (some (.ref a))) (Q := fun b s₂ => R (.ok (if b then .brk else .next)) s₂) (E := notedBy (model X.prog X.w) (X.A.mark (some (.ref a))) X.env fun x s₂ => R (.error x) s₂) h
  obtain ⟨gl, nd, at_ | ⟨no, boot, nn⟩⟩ := hc
  · exact codeAny_handlers_test (ld_glob (X := X.suite a ((a, oe) :: (X.pn ++ pins))) S gl at_ here nd)
  · exact codeAny_handlers_test (ld_blt (X := X.suite a ((a, oe) :: (X.pn ++ pins))) S gl no boot here nn nd)
theorem sp_unsuite {q : Addr × Obj} {pn' : List (Addr × Obj)} {B : Ends} (ok : X.Ok) {fl : PySem.Flow} (h : SP (X.suite a (q :: (X.pn ++ pins))) pn' B fl s) : SP X pins B fl s := by
  cases fl with
  | ret u =>
    obtain ⟨v, σ', H', S, r, z⟩ := h
    exact ⟨v, σ', H', S.unsuite ok, r, z⟩
  | _ =>
    obtain ⟨σ', H', S, z⟩ := h
    exact ⟨σ', H', S.unsuite ok, z⟩
end
/-- a clause: its class, its name's slot, what its suite makes of the error -/
structure Cl where
  c : Value
  i : Option Nat
  ts : Addr → Value → Option Addr → TS
def onSl : Option Nat → Addr → L2.St → L2.St
  | some i, a, σ => σ.set i (some (.ref a))
  | none, _, σ => σ
def offE : Option Nat → Ends → Ends
  | some i, B => { nx := fun σ H => B.nx (σ.set i none) H, rt := B.rt, bk := fun σ H => B.bk (σ.set i none) H, ct := fun σ H => B.ct (σ.set i none) H }
  | none, B => B
def wishCl (K : PySem.W.Frag) (W : WX) (B : Ends) : List Cl → WX
  | [] => W
  | q :: r => fun cls d σ H => ∃ b, PySem.W.exmOne K cls q.c = some b ∧ (b = true → ∀ a, H a = none → q.ts a cls d (offE q.i B) (onSl q.i a σ) H) ∧ (b = false → wishCl K W B r cls d σ H)
/-- an except clause's name and its slot -/
inductive NmOk (X : Cx) : Option Str → Option Nat → Prop
  | no : NmOk X none none
  | name {i : Nat} {n : Str} : X.N[i]? = some n → X.env.kindOf n = some .local → NmOk X (some n) (some i)
def SuiteOk (X : Cx) (suite : List Stmt) (ts : Addr → Value → Option Addr → TS) : Prop :=
  ∀ (a : Addr) (oe : Obj) (cls : Value) (d : Option Addr) (pn : List (Addr × Obj)), Zc cls d oe → (∃ vs, oe.data = .fields vs) → PSs (X.suite a ((a, oe) :: pn)) suite (ts a cls d)
inductive ClsOk (X : Cx) : List ExceptHandler → List Cl → Prop
  | nil : ClsOk X [] []
  | cons {x : Str} {q : Cl} {nm : Option Str} {b₀ : Stmt} {suite : List Stmt} {np pos : Pos} {hds : List ExceptHandler} {l : List Cl} : Names X x q.c → NmOk X nm q.i → SuiteOk X (b₀ :: suite) q.ts → ClsOk X hds l → ClsOk X (.ExceptHandler (some (.Name x np)) nm (b₀ :: suite) pos :: hds) (q :: l)
section
variable {X : Cx} {pins : List (Addr × Obj)} {σ : L2.St} {H : Hp} {cls : Value} {d : Option Addr} {a : Addr} {s : Shared} {B : Ends} {W : WX}
theorem Down.suite {q : Cl} {nm : Option Str} {b₀ : Stmt} {suite : List Stmt} {pos : Pos} (hf : X.env.frame = some X.env.locals) (hs : X.stack = X.env :: X.outer) (nd : X.N.Nodup) (D : Down X pins σ H cls d a s) (hn : NmOk X nm q.i) (hsu : SuiteOk X (b₀ :: suite) q.ts)
    (h : q.ts a cls d (offE q.i B) (onSl q.i a σ) H) : codeAny (model X.prog X.w) (X.A.mark (some (.ref a))) (.handlers (.ref a) [.ExceptHandler none nm (b₀ :: suite) pos] X.env) (fun r s₂ => match r with
      | .ok fl => (match (generalizing := false) nm with
        | none => SP X pins B fl s₂
        | some n => wpAny (model X.prog X.w) X.A (do bindName X.env n .none; unbindBehindTheSuite X.env n pos) (fun _ s₃ => SP X pins B fl s₃) X.xe s₂)
      | .error x => cameBackBy (model X.prog X.w) X.A X.env X.xe x s₂) s := by
  have ok := D.inv.ok
  obtain ⟨c, i, ts⟩ := q
  cases hn with
  | no =>
    refine codeAny_handlers_suite (D.again fun s' D' => ?_)
    obtain ⟨oe, vs, e, z, data, nl, nf⟩ := D'.seen hf hs
    exact wpAny_mono ((hsu a oe cls d (X.pn ++ pins) z ⟨_, data⟩).run [] s' σ H B (D'.inv.suite e data D'.free nl nf) h) (fun fl s6 done => sp_unsuite ok done) fun _ _ z => z.elim
  | @name i n hi hl =>
    refine codeAny_handlers_suite_as (D.again fun s' D' => ?_)
    obtain ⟨oe, vs, e, z, data, nl, nf⟩ := D'.seen hf hs
    have S := D'.inv.suite e data D'.free nl nf
    refine store_ok (X := X.suite a ((a, oe) :: (X.pn ++ pins))) (v := .ref a) S nd hi (.inl hl) rfl (fun s5 S5 => ?_) (.inr hl)
    refine wpAny_mono ((hsu a oe cls d (X.pn ++ pins) z ⟨_, data⟩).run [] s5 _ H _ S5 h) (fun fl s6 done => ?_) fun _ _ z => z.elim
    cases fl with
    | ret u =>
      obtain ⟨v, σ6, H6, S6, r6, q6⟩ := done
      exact gone_ok (S6.unsuite ok) nd hi hl fun s7 J => ⟨v, _, H6, J, r6, q6⟩
    | _ =>
      obtain ⟨σ6, H6, S6, q6⟩ := done
      exact gone_ok (S6.unsuite ok) nd hi hl fun s7 J => ⟨_, H6, J, q6⟩
theorem Down.clauses (hf : X.env.frame = some X.env.locals) (hs : X.stack = X.env :: X.outer) (nd : X.N.Nodup) (tk : Takes X W) (D : Down X pins σ H cls d a s) {hds : List ExceptHandler} {l : List Cl} (hk : ClsOk X hds l) (w : wishCl X.K W B l cls d σ H) :
    wpAny (model X.prog X.w) X.A (handleBy (.ref a) X.env hds) (SP X pins B) X.xe s := by
  induction hk with
  | nil => exact D.on hf hs tk w
  | cons hc hn hsu _ ih =>
    obtain ⟨b, hb, yes, no⟩ := w
    refine wpAny_handleBy_cons (D.asks hf hs hc hb ?_) (fun z => by cases z)
    cases b with
    | true => exact D.suite hf hs nd hn hsu (yes rfl a D.free)
    | false => exact ih (no rfl)
theorem ps_try {body : List Stmt} {h₀ : ExceptHandler} {hds : List ExceptHandler} {l : List Cl} {pos : Pos} {tb : WX → TS} (hf : X.env.frame = some X.env.locals) (hs : X.stack = X.env :: X.outer) (nd : X.N.Nodup) (tk : Takes X W)
    (hb : ∀ (W : WX) (pn : List (Addr × Obj)) (xe : Value → Shared → Prop), Takes (X.tr pn xe) W → PassesOwn (model X.prog X.w) X.A X.env xe → PSs (X.tr pn xe) body (tb W)) (hk : ClsOk X (h₀ :: hds) l) : PS X (.Try body (h₀ :: hds) [] [] pos) (fun B σ H => tb (wishCl X.K W B l) B σ H) := by
  refine ⟨fun pins s σ H B I h => ?_⟩
  have ok := I.ok
  refine wpAny_Try_except ?_
  have run := hb (wishCl X.K W B l) (X.pn ++ pins) (fun e s₁ => wpAny (model X.prog X.w) X.A (noteFrame e X.env) (fun _ s₂ => wpAny (model X.prog X.w) X.A (setFlight e none) (fun _ s₃ => wpAny (model X.prog X.w) X.A (handleBy e X.env (h₀ :: hds)) (SP X pins B) X.xe s₃) X.xe s₂) X.xe s₁)
    (fun u s' ⟨a, G, t, pn', σ', H', cls, d, eu, J, nb, up, sky, free, os, gens, w⟩ => by
      subst eu
      have sky' : Sky G (X.env :: X.outer) a (Zc cls d) X.env.locals s'.heap := hs ▸ sky
      exact Sky.land Zc.steady (ok.frames.trans (congrArg some hs)) hf sky' fun h3 fly v => Down.clauses (s := { s' with heap := h3 }) hf hs nd tk ⟨⟨G, t, J.ofTry ok, nb, up.trans v, hs ▸ fly, os⟩, gens, free⟩ hk w) PassesOwn.looking
  refine wpAny_mono (run.run [] s σ H B (I.toTry _) h) (fun fl s1 done => ?_) fun _ _ z => z
  cases fl with
  | next =>
    obtain ⟨σ', H', J, q⟩ := done
    exact wpAny_execs_nil ⟨σ', H', J.ofTry ok, q⟩
  | ret u =>
    obtain ⟨v, σ', H', J, r, q⟩ := done
    exact ⟨v, σ', H', J.ofTry ok, r, q⟩
  | _ =>
    obtain ⟨σ', H', J, q⟩ := done
    exact ⟨σ', H', J.ofTry ok, q⟩
end
end Ev
end

section
set_option Elab.async false
set_option linter.all false
set_option maxRecDepth 100000
namespace Ev
open PySem PySem.Spec L2 PyProof.Rows
variable [TabList]
/-! ### the error that a suite holds -/
structure Held (Y : Yd) (X : Cx) : Prop where
  ex : ∃ (X0 : Cx) (a dx : Addr) (c : Nat) (oe : Obj) (pn : List (Addr × Obj)), X = X0.suite a ((a, oe) :: pn) ∧ Y.y.ex = some (a, dx, c) ∧ Zc (.ref (TabList.cls c)) (some dx) oe ∧ ∃ vs, oe.data = .fields vs
/-- the classes of errors for which a name's class is asked -/
structure XnFact (X : Cx) (x : Str) (cs no : List Nat) : Prop where
  ex : ∃ C, X.mg x = some (.ref C) ∧ ∀ c b, among cs no c = some b → ExcC X.K (TabList.cls c) ∧ PySem.W.exmOne X.K (.ref (TabList.cls c)) (.ref C) = some b ∧ PySem.W.kitOne X.K (.ref (TabList.cls c)) (.ref C) = some b
/-- .. whose attribute f is read -/
def XfFact (X : Cx) (cs : List Nat) (f : Str) : Prop := ∀ c ∈ cs, ExcC X.K (TabList.cls c) ∧ PySem.W.findIn X.K (.ref (TabList.cls c)) f = some none
section
variable {X : Cx} {Y : Yd} {g : Gh} {i : Nat} {n f : Str} {cs no : List Nat} {p p2 pos : Pos}
theorem exc_slot {K : PySem.W.Frag} {env : Env} {m : List Addr} {σ : L2.St} {H : Hp} {c c' : Nat} {ns : List Str} {fs : List D} {a dx : Addr} (hg : g.y = Y.y) (hy : Y.y.ex = some (a, dx, c)) (s : SlotOk K g env m σ H i (.exc c' ns fs)) :
    c' = c ∧ σ[i]? = some (some (.ref a)) ∧ ∃ vs, H dx = some (.xd (ns.zip vs)) ∧ vs.length = ns.length ∧ RepL K (Fbd g env σ m) m H vs fs := by
  obtain ⟨a', dx', vs, h1, h2, h3, h4, h5⟩ := s
  rw [hg, hy] at h2
  cases h2
  exact ⟨rfl, h1, vs, h3, h4, h5⟩
theorem e_exFld (hd : Held Y X) (hg : g.y = Y.y) (hN : X.N[i]? = some n) (hv : Vis X.env.scope n) (ok : okName n = true) (F : XfFact X cs f) : PE X (.Attribute (.Name n p) f pos) (tE X.K Y g (.exFld i cs f)) := by
  obtain ⟨X0, a, dx, c, oe, pn, rfl, hy, hz, hf⟩ := hd.ex
  refine ⟨fun pins s σ H Q I ⟨env, hp, m, S, ev⟩ => ?_⟩
  have ev : RR (match env[i]? with
    | some (.exc c ns fs) => if cs.contains c then lift hp (look f ns fs) else none
    | _ => none) _ _ := ev
  split at ev
  · rename_i c' ns fs hs
    split at ev
    · rename_i hc
      obtain ⟨d, hl, q⟩ := ev.lift
      obtain ⟨rfl, at_, vs, hx, _, r⟩ := exc_slot hg hy (S.slots i _ hs)
      obtain ⟨v, hv2, rv⟩ := look_rep r hl
      obtain ⟨T, none_⟩ := F _ (by simpa using hc)
      exact (pe_xf ⟨T.hg, T.hk, T.hs, T.hd⟩ none_ hz hf (pe_var hN hv (okName_of ok).1 (okName_of ok).2)).run pins s σ H Q I ⟨.ref a, at_, rfl, rfl, dx, _, v, rfl, hx, hv2, q v H m S Step.refl rv⟩
    · exact ev.elim
  · exact ev.elim
/-- isinstance(e, T), e the error in hand -/
def rHeld (K : PySem.W.Frag) (a C : Addr) : List V → Hp → VK → Prop := fun xs H Q => ∃ (T : Addr) (b : Bool), xs = [.ref a, .ref T] ∧ ExcC K C ∧ PySem.W.kitOne K (.ref C) (.ref T) = some b ∧ Q (.bl b) H
theorem call_held {X0 : Cx} {a C dx : Addr} {oe : Obj} {pn : List (Addr × Obj)} (hz : Zc (.ref C) (some dx) oe) (hf : ∃ vs, oe.data = .fields vs) (hdx : ∀ pins σ H s, Inv (X0.suite a ((a, oe) :: pn)) pins σ H s → (∃ fs, H dx = some (.xd fs)) → ∃ od, s.heap.get? dx = some od) :
    CallR (X0.suite a ((a, oe) :: pn)) (.builtin "isinstance") (fun xs H Q => (∃ fs, H dx = some (.xd fs)) ∧ rHeld X0.K a C xs H Q) := by
  rintro pins s σ H _ us Q I r ⟨hx, T, b, rfl, E, ask, q⟩
  obtain ⟨u, v, rfl, r1, r2⟩ := vals2 r
  obtain rfl : u = Value.ref a := r1
  obtain rfl : v = Value.ref T := r2
  have here := (I.pin (a, oe) (List.mem_append_left _ List.mem_cons_self)).1
  obtain ⟨od, dict⟩ := hdx pins σ H s I hx
  have known : (PySem.W.clsIn X0.K C).isSome = true := by
    obtain ⟨cd, e, _⟩ := PySem.W.any_some E.hd
    rw [e]
    rfl
  have inst : PySem.W.InstAt s.heap a oe C (some od) := ⟨here, hz.1, by
    obtain ⟨vs, e⟩ := hf
    unfold PySem.W.notCls
    rw [e], by
    rw [hz.2]
    exact dict⟩
  exact PySem.W.kia_one (PySem.W.kitx_exc known E.hg E.hk E.hs E.ha E.hn E.ht E.hm) I.kIn inst ask (fun z => by cases z) fun tk => ⟨.bl b, H, I.tok _, rfl, q⟩
theorem e_exIs {T : Str} {p3 : Pos} (hd : Held Y X) (hg : g.y = Y.y) (hN : X.N[i]? = some n) (hv : Vis X.env.scope n) (ok : okName n = true) (g1 : Gl X "isinstance") (m1 : X.mg "isinstance" = none) (g2 : Gl X T) (d2 : (T == ("__debug__" : Str)) = false) (F : XnFact X T cs no) :
    PE X (.Call (.Name "isinstance" p) [.Name n p2, .Name T p3] [] pos) (tE X.K Y g (.exIs i cs no)) := by
  obtain ⟨X0, a, dx, c, oe, pn, rfl, hy, hz, hf⟩ := hd.ex
  obtain ⟨C, hC, ask⟩ := F.ex
  have dict : ∀ pins σ H s, Inv (X0.suite a ((a, oe) :: pn)) pins σ H s → (∃ fs, H dx = some (.xd fs)) → ∃ od, s.heap.get? dx = some od := fun pins σ H s I ⟨fs, h⟩ => by
    obtain ⟨mA, ⟨o, es, ep, e, _⟩, _⟩ : ObjOk X0.prog X0.w H s.heap dx (.xd fs) := I.hok dx _ h
    exact ⟨o, e⟩
  refine peWeak (pe_callB (call_held hz hf dict) g1 m1 PyProof.Rows.boot_isinstance (pa_cons (pe_var hN hv (okName_of ok).1 (okName_of ok).2) (pa_cons (pe_glob (v := .ref C) g2 hC rfl d2) pa_nil rfl) rfl) (by decide) (by decide) rfl rfl) fun σ H Q ⟨env, hp, m, S, ev⟩ => ?_
  have ev : RR (match env[i]? with
    | some (.exc c _ _) => lift hp ((among cs no c).map .bl)
    | _ => none) _ _ := ev
  split at ev
  · rename_i c' ns fs hs
    obtain ⟨d, hl, q⟩ := ev.lift
    obtain ⟨b, hb, rfl⟩ := Option.map_eq_some_iff.mp hl
    obtain ⟨rfl, at_, vs, hx, _, _⟩ := exc_slot hg hy (S.slots i _ hs)
    obtain ⟨E, _, k⟩ := ask _ b hb
    exact ⟨.ref a, at_, ⟨_, hx⟩, C, b, rfl, E, k, q _ H m S Step.refl (.bl b)⟩
  · exact ev.elim
end
end Ev
end

section
set_option Elab.async false
set_option linter.all false
set_option maxRecDepth 100000
namespace Ev
open PySem PySem.Spec L2 PyProof.Rows
variable [TabList]
/-! ### try, by the evaluator -/
def offX : Sl → Sl
  | .exc _ _ _ => .none
  | s => s
def Gh.at (g : Gh) (y : Yx) : Gh := { g with y := y }
section
variable {K : PySem.W.Frag} {g : Gh} {env env' : Env} {hp : Heap} {m : List Addr} {σ σ' : L2.St} {H : Hp} {y : Yx}
theorem offX_own {s : Sl} {d : D} : offX s = .own d ↔ s = .own d := by
  cases s <;> simp [offX]
theorem offX_isOwn : SameOwn env σ (env.map offX) σ := fun a => by
  constructor
  · rintro ⟨i, d, h1, h2⟩
    rw [List.getElem?_map] at h1
    obtain ⟨s, e, h⟩ := Option.map_eq_some_iff.mp h1
    exact ⟨i, d, by rw [e, offX_own.mp h], h2⟩
  · rintro ⟨i, d, h1, h2⟩
    exact ⟨i, d, by rw [List.getElem?_map, h1]; rfl, h2⟩
theorem noExc_map (h : noExc env = true) : env.map offX = env := by
  refine (List.map_congr_left fun s hs => ?_).trans (List.map_id _)
  have z := List.all_eq_true.mp h s hs
  cases s <;> first | rfl | cases z
/-- another error in hand, or none -/
theorem StRel.reY (S : StRel K g env hp m σ H) (ha : y.act = g.y.act) : StRel K (g.at y) (env.map offX) hp m σ H := by
  have fb : Fbd (g.at y) (env.map offX) σ m = Fbd g env σ m := (offX_isOwn (σ := σ) (env := env)).fbd
  refine ⟨by rw [List.length_map]; exact S.len, fun i x hx => ?_, fun i j d e a h1 h2 => ?_, S.cells, fun k d h => ?_, S.nd, S.pr, S.frame, S.more, S.tabs, S.has⟩
  · rw [List.getElem?_map] at hx
    obtain ⟨s, e, rfl⟩ := Option.map_eq_some_iff.mp hx
    have old := S.slots i s e
    cases s with
    | none => trivial
    | exc c ns fs => trivial
    | act =>
      obtain ⟨f, c, q, h1, h2, h3⟩ := old
      exact ⟨f, c, q, h1, ha.trans h2, h3⟩
    | val d =>
      obtain ⟨v, h1, h2⟩ := old
      exact ⟨v, h1, by rw [fb]; exact h2⟩
    | own d =>
      obtain ⟨a, o, h1, h2, h3, h4⟩ := old
      exact ⟨a, o, h1, h2, by rw [fb]; exact h3, h4⟩
    | bor d =>
      obtain ⟨a, vs, ds, h1, h2, h3, h4, h5⟩ := old
      exact ⟨a, vs, ds, h1, h2, h3, by rw [fb]; exact h4, h5⟩
  · rw [List.getElem?_map] at h1 h2
    obtain ⟨s, e1, k1⟩ := Option.map_eq_some_iff.mp h1
    obtain ⟨t, e2, k2⟩ := Option.map_eq_some_iff.mp h2
    exact S.apart i j d e a (by rw [e1, offX_own.mp k1]) (by rw [e2, offX_own.mp k2])
  · rw [fb]
    exact S.cell k d h
theorem StRel.reY0 (S : StRel K g env hp m σ H) (ha : y.act = g.y.act) (h : noExc env = true) : StRel K (g.at y) env hp m σ H := by
  have z := S.reY ha
  rw [noExc_map h] at z
  exact z
/-- what the suite's context has in hand -/
def Yd.held (Y : Yd) (a dx : Addr) (c : Nat) : Yd := { Γ := Y.Γ, W := fun _ _ _ _ => False, y := ⟨some (a, dx, c), Y.y.act⟩ }
def offSl : Option Nat → L2.St → L2.St
  | some i, σ => σ.set i none
  | none, σ => σ
theorem on_rel {i : Option Nat} {c : Nat} {ns : List Str} {fs : List D} {a dx : Addr} {vs : List V} (S : StRel K g env hp m σ H) (ne : noExc env = true) (hy : y.ex = some (a, dx, c)) (ha : y.act = g.y.act) (e : onEnv i c ns fs env = some env') (hx : H dx = some (.xd (ns.zip vs))) (hl : vs.length = ns.length)
    (r : RepL K (Fbd g env σ m) m H vs fs) : StRel K (g.at y) env' hp m (onSl i a σ) H ∧ SameOwn env σ env' (onSl i a σ) := by
  have S := S.reY0 ha ne
  cases i with
  | none =>
    cases e
    exact ⟨S, SameOwn.refl⟩
  | some i =>
    have e : (if isOwnSl env[i]? then none else some (env.set i (.exc c ns fs))) = some env' := e
    split at e
    · cases e
    · rename_i no
      cases e
      have so : SameOwn env σ (env.set i (.exc c ns fs)) (σ.set i (some (.ref a))) := isOwn_set (fun _ z => by cases z) (notOwn_of no)
      refine ⟨S.put (notOwn_of no) (fun _ z => by cases z) fun hi => ⟨a, dx, vs, ?_, hy, hx, hl, ?_⟩, so⟩
      · rw [List.getElem?_set_self (by rw [← S.len]; exact hi)]
      · rw [show Fbd (g.at y) (env.set i (.exc c ns fs)) (σ.set i (some (.ref a))) m = Fbd g env σ m from so.fbd]
        exact r
theorem off_rel {i : Option Nat} (S : StRel K g env hp m σ H) (ha : y.act = g.y.act) (e : offEnv i env = some env') : StRel K (g.at y) env' hp m (offSl i σ) H ∧ SameOwn env σ env' (offSl i σ) := by
  cases i with
  | none =>
    have e : (if noExc env then some env else none) = some env' := e
    split at e
    · rename_i h
      cases e
      exact ⟨S.reY0 ha h, SameOwn.refl⟩
    · cases e
  | some i =>
    have e : (if isOwnSl env[i]? then none else if noExc (env.set i .none) then some (env.set i .none) else none) = some env' := e
    split at e
    · cases e
    · rename_i no
      split at e
      · rename_i h
        cases e
        obtain ⟨T, so⟩ := S.putNone no
        exact ⟨T.reY0 ha h, so⟩
      · cases e
end
/-- an except clause and the evaluator's -/
inductive HsOk (Y : Yd) (X : Cx) : List ExceptHandler → Hs → List Cl → Prop
  | nil : HsOk Y X [] .nil []
  | cons {x : Str} {C : Addr} {nm : Option Str} {i : Option Nat} {b₀ : Stmt} {suite : List Stmt} {np pos : Pos} {hds : List ExceptHandler} {cs no : List Nat} {cb : List S} {r : Hs} {l : List Cl} :
      Names X x (.ref C) → (∀ c b, among cs no c = some b → PySem.W.exmOne X.K (.ref (TabList.cls c)) (.ref C) = some b) → NmOk X nm i →
      (∀ (a dx : Addr) (c : Nat) (oe : Obj) (pn : List (Addr × Obj)), Zc (.ref (TabList.cls c)) (some dx) oe → (∃ vs, oe.data = .fields vs) → PSs (X.suite a ((a, oe) :: pn)) (b₀ :: suite) (tSs X.K (Y.held a dx c) cb)) → HsOk Y X hds r l →
      HsOk Y X (.ExceptHandler (some (.Name x np)) nm (b₀ :: suite) pos :: hds) (.cons cs no i cb r) (⟨.ref C, i, fun a cls d B σ H => ∃ dx c, cls = .ref (TabList.cls c) ∧ d = some dx ∧ tSs X.K (Y.held a dx c) cb B σ H⟩ :: l)
section
variable {X : Cx} {Y : Yd}
theorem HsOk.clauses {hds : List ExceptHandler} {hs : Hs} {l : List Cl} (h : HsOk Y X hds hs l) : ClsOk X hds l := by
  induction h with
  | nil => exact .nil
  | cons h1 h2 h3 h4 _ ih =>
    refine .cons h1 h3 (fun a oe cls d pn hz hf => ⟨fun pins s σ H B I ⟨dx, c, e1, e2, q⟩ => ?_⟩) ih
    subst e1 e2
    exact (h4 a dx c oe pn hz hf).run pins s σ H B I q
/-- what a suite leaves is what the try leaves -/
theorem suite_after {g : Gh} {B : Ends} {i : Option Nat} {a dx : Addr} {c : Nat} {env env1 : Env} {σ σ1 : L2.St} {m : List Addr} {H : Hp} {fl fl' : Flow} {h h' : Heap} (hg : g.y = Y.y) (so : SameOwn env σ env1 σ1) (e : offFl i fl h = some (.ok fl' h')) (q : After X.K Y g B env σ m H fl' h') :
    After X.K (Y.held a dx c) (g.at (Y.held a dx c).y) (offE i B) env1 σ1 m H fl h := by
  have back : (g.at (Y.held a dx c).y).at g.y = g := rfl
  have act : g.y.act = (g.at (Y.held a dx c).y).y.act := by rw [hg]; rfl
  have ends : ∀ {env2 env3 : Env} {σ2 : L2.St} {H2 : Hp} {m2 : List Addr} {h2 : Heap}, offEnv i env2 = some env3 → StRel X.K (g.at (Y.held a dx c).y) env2 h2 m2 σ2 H2 → SStep env1 σ1 m H env2 σ2 m2 H2 → StRel X.K g env3 h2 m2 (offSl i σ2) H2 ∧ SStep env σ m H env3 (offSl i σ2) m2 H2 := fun {env2 env3 σ2 H2 m2 h2} e S st => by
    obtain ⟨T, so2⟩ := off_rel (y := g.y) S act e
    exact ⟨T, ((SStep.of Step.refl so).trans st).trans (SStep.of Step.refl so2)⟩
  cases fl with
  | nx env2 =>
    have e : (match offEnv i env2 with | some env => rok (Flow.nx env) h | none => none) = some (.ok fl' h') := e
    split at e
    · rename_i env3 he
      obtain ⟨rfl, rfl⟩ := rok_inj e
      intro σ2 H2 m2 S st
      obtain ⟨T, z⟩ := ends he S st
      have done := q _ H2 m2 T z
      cases i <;> exact done
    · cases e
  | brk env2 =>
    have e : (match offEnv i env2 with | some env => rok (Flow.brk env) h | none => none) = some (.ok fl' h') := e
    split at e
    · rename_i env3 he
      obtain ⟨rfl, rfl⟩ := rok_inj e
      intro σ2 H2 m2 S st
      obtain ⟨T, z⟩ := ends he S st
      have done := q _ H2 m2 T z
      cases i <;> exact done
    · cases e
  | cont env2 =>
    have e : (match offEnv i env2 with | some env => rok (Flow.cont env) h | none => none) = some (.ok fl' h') := e
    split at e
    · rename_i env3 he
      obtain ⟨rfl, rfl⟩ := rok_inj e
      intro σ2 H2 m2 S st
      obtain ⟨T, z⟩ := ends he S st
      have done := q _ H2 m2 T z
      cases i <;> exact done
    · cases e
  | ret d =>
    obtain ⟨rfl, rfl⟩ := rok_inj (show some (Out.ok (Flow.ret d) h) = some (.ok fl' h') from e)
    intro v env2 σ2 H2 m2 S st rv
    have done := q v (env2.map offX) σ2 H2 m2 (S.reY (y := g.y) act) (((SStep.of Step.refl so).trans st).trans (SStep.of Step.refl offX_isOwn)) rv
    cases i <;> exact done
  | exc _ _ _ _ => cases e
/-- the clauses, from where the body has left an error -/
theorem HsOk.wish {hds : List ExceptHandler} {hs : Hs} {l : List Cl} (hk : HsOk Y X hds hs l) {g : Gh} {B : Ends} {env : Env} {σ : L2.St} {m : List Addr} {H : Hp} {hp hp' : Heap} {fl : Flow} {c : Nat} {ns : List Str} {fs : List D} {d : Addr} {vs : List V} (hg : g.y = Y.y) (S : StRel X.K g env hp m σ H) (ne : noExc env = true)
    (hx : H d = some (.xd (ns.zip vs))) (hl : vs.length = ns.length) (r : RepL X.K (Fbd g env σ m) m H vs fs) (ev : evHs reprL Y.Γ hs c ns fs env hp = some (.ok fl hp')) (q : After X.K Y g B env σ m H fl hp') : wishCl X.K Y.W B l (.ref (TabList.cls c)) (some d) σ H := by
  induction hk with
  | nil =>
    obtain ⟨rfl, rfl⟩ := rok_inj (show some (Out.ok (Flow.exc env c ns fs) hp) = some (.ok fl hp') from ev)
    exact q σ H m d vs S SStep.refl hx hl r
  | @cons x C nm i b₀ suite np pos hds cs no cb rest l h1 h2 h3 h4 _ ih =>
    have ev : (match among cs no c with
      | some true => (match onEnv i c ns fs env with
        | some env => R.bind (evSs reprL Y.Γ cb env hp) (offFl i)
        | none => none)
      | some false => evHs reprL Y.Γ rest c ns fs env hp
      | none => none) = some (.ok fl hp') := ev
    split at ev
    · rename_i hb
      split at ev
      · rename_i env1 he
        refine ⟨true, h2 c true hb, fun _ a _ => ⟨d, c, rfl, rfl, ?_⟩, fun z => by cases z⟩
        obtain ⟨T, so⟩ := on_rel (y := (Y.held a d c).y) S ne rfl (by rw [hg]; rfl) he hx hl r
        obtain ⟨fl2, h2', e2, ev⟩ := bind_some ev
        exact ⟨g.at (Y.held a d c).y, env1, hp, m, rfl, T, fl2, h2', e2, suite_after hg so ev q⟩
      · cases ev
    · rename_i hb
      exact ⟨false, h2 c false hb, (fun z => Bool.noConfusion z), fun _ => ih ev⟩
    · cases ev
theorem s_try {body : List Stmt} {h₀ : ExceptHandler} {hds : List ExceptHandler} {hs : Hs} {l : List Cl} {cb : List S} {pos : Pos} (hf : X.env.frame = some X.env.locals) (hst : X.stack = X.env :: X.outer) (nd : X.N.Nodup) (tk : Takes X Y.W)
    (hb : ∀ (W : WX) (pn : List (Addr × Obj)) (xe : Value → Shared → Prop), Takes (X.tr pn xe) W → PassesOwn (model X.prog X.w) X.A X.env xe → PSs (X.tr pn xe) body (tSs X.K { Y with W := W } cb)) (hk : HsOk Y X (h₀ :: hds) hs l) :
    PS X (.Try body (h₀ :: hds) [] [] pos) (tS X.K Y (.tryy cb hs)) :=
  psWeak (ps_try (tb := fun W => tSs X.K { Y with W := W } cb) hf hst nd tk hb hk.clauses) fun B σ H ⟨g, env, hp, m, hg, S, fl, hp', ev, q⟩ => by
    obtain ⟨fl1, h1, e1, ev⟩ := bind_some (show R.bind (evSs reprL Y.Γ cb env hp) _ = _ from ev)
    refine ⟨g, env, hp, m, hg, S, fl1, h1, e1, ?_⟩
    cases fl1 with
    | exc env1 c ns fs =>
      have ev : (if noExc env1 then evHs reprL Y.Γ hs c ns fs env1 h1 else none) = some (.ok fl hp') := ev
      split at ev
      · rename_i ne
        exact fun σ' H' m' d vs S' st hx hl r => hk.wish hg S' ne hx hl r ev (q.step st)
      · cases ev
    | nx e =>
      obtain ⟨rfl, rfl⟩ := rok_inj (show some (Out.ok (Flow.nx e) h1) = some (.ok fl hp') from ev)
      exact q
    | brk e =>
      obtain ⟨rfl, rfl⟩ := rok_inj (show some (Out.ok (Flow.brk e) h1) = some (.ok fl hp') from ev)
      exact q
    | cont e =>
      obtain ⟨rfl, rfl⟩ := rok_inj (show some (Out.ok (Flow.cont e) h1) = some (.ok fl hp') from ev)
      exact q
    | ret d =>
      obtain ⟨rfl, rfl⟩ := rok_inj (show some (Out.ok (Flow.ret d) h1) = some (.ok fl hp') from ev)
      exact q
end
end Ev
end

section
set_option Elab.async false
set_option linter.all false
set_option maxRecDepth 100000
namespace Ev
open PySem PySem.Spec L2 PyProof.Rows
variable [TabList]
/-! ### a lambda, made and handed to a def that calls it -/
/-- the heap behind a lambda's making: tables may have grown -/
structure Made (T : List (Addr × Str)) (H H1 : Hp) : Prop where
  ext : LamX.ExtN H H1
  tabs : LamX.Tabs T H1
  there : ∀ a o, H a = some o → ∃ o', H1 a = some o'
section
variable {T : List (Addr × Str)} {H : Hp} {P c : Addr} {q : Str} {ps : Array Value} {pos : Pos}
theorem Made.old (t : LamX.Tabs T H) : Made T H H := ⟨.refl H, t, fun _ o h => ⟨o, h⟩⟩
/-- a new code object, its place noted in the table -/
theorem Made.new (t : LamX.Tabs T H) (one : ∀ p ∈ T, p.1 = P → p.2 = q) (hP : H P = some (.tbl ps)) (ok : TriplesOk ps.toList) (old : ∀ (pos : Pos) (cv : Value), codeAmong pos ps.toList = some cv → ∃ c, cv = .ref c ∧ H c = some (LamX.CodeO c q)) (hc : H c = none) :
    Made T H (upd (upd H P (.tbl (ps ++ #[rawInt pos.line, rawInt pos.col, .ref c]))) c (LamX.CodeO c q)) := by
  have off : ∀ {b : Addr} {o : HO}, H b = some o → b ≠ c := fun {b o} h z => by
    rw [z, hc] at h
    cases h
  have stays : LamX.ExtN H (upd (upd H P (.tbl (ps ++ #[rawInt pos.line, rawInt pos.col, .ref c]))) c (LamX.CodeO c q)) := fun b o h nt => by
    rw [upd_ne (off h), upd_ne fun z => by
      rw [z, hP] at h
      exact nt ps (Option.some.inj h).symm]
    exact h
  have at_P : upd (upd H P (.tbl (ps ++ #[rawInt pos.line, rawInt pos.col, .ref c]))) c (LamX.CodeO c q) P = some (.tbl (ps ++ #[rawInt pos.line, rawInt pos.col, .ref c])) := by rw [upd_ne (off hP), upd_same]
  have row : (ps ++ #[rawInt pos.line, rawInt pos.col, .ref c]).toList = ps.toList ++ [rawInt pos.line, rawInt pos.col, .ref c] := by simp
  refine ⟨stays, fun p hp => ?_, fun b o h => ?_⟩
  · by_cases z : p.1 = P
    · refine ⟨_, by rw [z]; exact at_P, by rw [row]; exact PySem.TriplesOk_snoc _ _ _ _ ok, fun pos' cv e => ?_⟩
      rw [row] at e
      rw [one p hp z]
      rcases LamX.among_app _ ok e with k | rfl
      · obtain ⟨c2, e1, e2⟩ := old pos' cv k
        exact ⟨c2, e1, stays _ _ e2 LamX.codeO_ne⟩
      · exact ⟨c, rfl, upd_same ..⟩
    · obtain ⟨ps2, e1, e2, e3⟩ := t p hp
      refine ⟨ps2, by rw [upd_ne (off e1), upd_ne z]; exact e1, e2, fun pos' cv e => ?_⟩
      obtain ⟨c2, k1, k2⟩ := e3 pos' cv e
      exact ⟨c2, k1, stays _ _ k2 LamX.codeO_ne⟩
  · by_cases z : b = P
    · exact ⟨_, by rw [z]; exact at_P⟩
    · exact ⟨o, by rw [upd_ne (off h), upd_ne z]; exact h⟩
end
section
variable {X : Cx} {pins : List (Addr × Obj)} {σ : L2.St} {H : Hp} {s : Shared} {T : List (Addr × Str)} {c P : Addr} {params : Arguments} {body : Expr} {scope : Scope} {pos : Pos} {E : Value → Shared → Prop} {Q : Value → Shared → Prop}
/-- the function object of a lambda here -/
abbrev lamO (X : Cx) (params : Arguments) (body : Expr) (scope : Scope) (pm : Value) (c : Addr) (ct : Value) : Obj := PySem.W.kla_obj "<lambda>" (X.env.qual ++ "<lambda>") params body scope (cloFrom X.env.cells scope.names []) pm c ct
theorem lam_new (I : Inv X pins σ H s) (TB : LamX.TabB X.base X.mg c P) (hcode : X.env.code = .ref c) (hm : (P, X.env.qual ++ "<lambda>") ∈ T) (one : ∀ p ∈ T, p.1 = P → p.2 = X.env.qual ++ "<lambda>") (t : LamX.Tabs T H) (hdef : defaultsOf params X.env = ([], [])) (hfree : ∀ y ∈ scope.names, y.2 = .free → ∃ c, X.env.cells.lookup y.1 = some c)
    (h : ∀ (f c' : Addr) (pm ct : Value) (H1 : Hp) (s' : Shared), Inv X pins σ H1 s' → Made T H H1 → s'.heap.get? f = some (lamO X params body scope pm c' ct) → H1 f = none → f ∉ frs X.stack → H1 c' = some (LamX.CodeO c' (X.env.qual ++ "<lambda>")) → Q (.ref f) s') :
    wpAny (model X.prog X.w) X.A (eval (.Lambda params body scope pos) X.env) Q E s := by
  obtain ⟨ps, hP, ok, old⟩ := t _ hm
  have at_P : s.heap.get? P = some { cls := .none, data := .fields ps } := I.hok P _ hP
  have bm : s.heap.BuiltinsAt X.mg P := TB.bm.keeps I.bk
  have high : ∀ {f : Addr}, s.heap.objs.size ≤ f → f ∉ frs X.stack := fun {f} hf z => by
    rcases List.mem_cons.mp (I.stkSub _ z) with e | e
    · exact absurd I.lt (by rw [← e]; exact Nat.not_lt.mpr hf)
    · exact I.nofs hf e
  refine PySem.W.kla_eval hdef ?_
  by_cases hit : ∃ cv, codeAmong pos ps.toList = some cv
  · obtain ⟨cv, hit⟩ := hit
    obtain ⟨c', rfl, known⟩ := old pos cv hit
    refine PySem.W.kla_makeFunctionHit (closure_ok hfree) I.ok.glob (I.mod.glob.keeps I.bk) hcode (TB.code.keeps I.bk) at_P ok hit bm fun ct h' tk keep size => ?_
    exact h _ c' _ ct H _ (I.kept fun b o e => Heap.get?_push_of_some _ (keep b o e)) (.old t) (Heap.get?_push_size _ rfl) (I.hok.fresh size) (high size) known
  · have miss : codeAmong pos ps.toList = none := by
      cases e : codeAmong pos ps.toList with
      | none => rfl
      | some cv => exact absurd ⟨cv, e⟩ hit
    refine PySem.W.kla_makeFunction (closure_ok hfree) I.ok.glob (I.mod.glob.keeps I.bk) hcode (TB.code.keeps I.bk) at_P ok miss TB.gP bm fun c' ct h' tk keep ge lt told tab => ?_
    obtain ⟨c2, oc, vs, tk2, e2, e3, e4, e5⟩ := told
    obtain rfl : c' = c2 := Value.ref.inj e2
    have fresh : H c' = none := I.hok.fresh ge
    have size : s.heap.objs.size ≤ h'.objs.size := Nat.le_trans ge (Nat.le_of_lt lt)
    refine h h'.objs.size c' _ ct _ _ (LamX.inv_table I hP (fun b o hb e => Heap.get?_push_of_some _ (keep b o hb e)) (Heap.get?_push_of_some _ tab) ge ⟨oc, vs, tk2, Heap.get?_push_of_some _ e3, e4, e5⟩) (.new t one hP ok old fresh) (Heap.get?_push_size _ rfl) ?_ (high size) (upd_same ..)
    rw [upd_ne (Nat.ne_of_gt lt), upd_ne (Nat.ne_of_gt (Nat.lt_of_lt_of_le (Heap.lt_size at_P) size))]
    exact I.hok.fresh size
end
def tLamN (T : List (Addr × Str)) (TT : (XK → Hp → VK → Prop) → Hp → VK → Prop) (t : XK → TE) : TE := fun σ H Q => LamX.Tabs T H ∧ ∀ H1, Made T H H1 → TT (fun W H' Q' => t W σ H' Q') H1 Q
section
variable {X : Cx}
theorem pe_heard {T : List (Addr × Str)} {TT : (XK → Hp → VK → Prop) → Hp → VK → Prop} {x a : Str} {g c P : Addr} {k : Nat} {pg : Arguments} {bg : List Stmt} {sg : Scope} {dV kV doc pm cdv ct oc : Value} {an od : Option Addr} {osl : Array (Option Value)} {Ng : List Str} {params : Arguments} {body : Expr} {scope : Scope} {t : XK → TE} {p lpos pos : Pos}
    (gl : Gl X x) (at_ : X.mg x = some (.ref g)) (kept : PySem.W.keepIn X.K (.ref g) = true) (lk : X.K.lookup g = some ⟨oc, od, .func (PySem.W.fnOf x x pg bg sg dV kV doc pm an cdv ct), osl⟩) (code : PySem.W.codeIn X.K cdv x = true) (binds : L2.Binds X.K (PySem.W.fnOf x x pg bg sg dV kV doc pm an cdv ct) [a] [])
    (sc : FnScope Ng [a] sg) (first : Ng[0]? = some a) (vis : Vis sg a) (gives : LamX.GivesTo X Ng x sg g cdv bg a (X.env.qual ++ "<lambda>") TT) (TB : LamX.TabB X.base X.mg c P) (hcode : X.env.code = .ref c) (hm : (P, X.env.qual ++ "<lambda>") ∈ T) (one : ∀ p ∈ T, p.1 = P → p.2 = X.env.qual ++ "<lambda>")
    (room : Room (k + 2) X.A) (L : LamX.LamS X.env.scope scope) (hdef : defaultsOf params X.env = ([], [])) (noargs : ∀ (q : Str) (cl : List (Str × Addr)) (pm cv ctv : Value), bindArgs (PySem.W.kla_fn "<lambda>" q params body scope cl pm cv ctv) ⟨[], []⟩ = pure [])
    (inner : ∀ (A : Around) (outer : List PySem.Env) (s : Shared) (H : Hp) (W : XK) (f c' : Addr), Room k (A.deeper (LamX.lamEnv X scope s.heap.objs.size f c')) → PE (LamX.lamCx X A outer s H W scope f c') body (t W))
    (dx : (x == ("__debug__" : Str)) = false) (da : (a == ("__debug__" : Str)) = false) (ca : (a == ("__classdict__" : Str)) = false) : PE X (.Call (.Name x p) [.Lambda params body scope lpos] [] pos) (tLamN T TT t) := by
  refine ⟨fun pins s σ H Q I ⟨tabs, told⟩ => wpAny_Call_Name_kw (ld_glob I gl at_ (PySem.W.callWith_K (h₀ := X.base) I.ok.mod.kin kept ?_ rfl rfl) dx)⟩
  have lam := lam_new (E := X.xe) (pos := lpos) (Q := fun u s1 => wpAny (model X.prog X.w) X.A (spliced (backTo pos (starEach [] X.env))) (fun us s2 => X.K.In s2.heap ∧ wpAny (model X.prog X.w) X.A (call (.ref g) (u :: us)) (EP X pins σ Q) X.xe s2) X.xe s1) I TB hcode hm one tabs hdef (L.has I.ok)
    fun f c' pm' ct' H1 s1 J made hf free off known => Calls.spliced_nil ⟨J.kIn, by
      have run := LamX.run_ofS (CX := C8.CX0) (E := C8.E0) (N := Ng) (ps := [a]) (vs := [.ref f]) (Q := Q) lk code sc room J.env0 (binds s1 [.ref f] J.kIn rfl) (.cons rfl .nil) rfl fun inside => by
        obtain ⟨r, hr, q⟩ := gives f c' s1 H1 Q (fun W H' Q' => t W σ H' Q') (fun W pn xe E p1 p2 tk hW => LamX.pe_act (i := 0) J L hf free off (noargs _ _ _ _ _) tk hW inside (fun A outer s H deep => inner A outer s H E f c' deep) first vis da ca) known (told H1 made)
        exact ⟨r, hr.nox, q⟩
      exact wpAny_call (codeAny_mono run fun
        | .error _, _, no => (show False from no).elim
        | .ok (.ret _), _, done => J.after done
        | .ok .next, _, no | .ok .brk, _, no | .ok .cont, _, no => no.elim)⟩
  exact Calls.spliced_cons lam
end
end Ev
end

section
set_option Elab.async false
set_option linter.all false
set_option maxRecDepth 100000
namespace Ev
open PySem PySem.Spec L2 PyProof.Rows
variable [TabList]
/-! ### a def that hears a lambda at its start: try: [return] a() except .. -/
def TTh (K : PySem.W.Frag) (Γ : Gm) (fn : Fn) : (XK → Hp → VK → Prop) → Hp → VK → Prop := fun tl H Q => ∃ Pr hp m act, Cells K Pr hp m H ∧
  (∀ (W : XK) (Q' : VK), RR (act hp) (fun d hp' => ∀ v H' m', Cells K Pr hp' m' H' → Step m H m' H' → Rep K (Pm Pr m') m' H' v d → Q' v H') (XF K Pr m H W) → tl W H Q') ∧
  RR (evFnA reprL Γ fn act hp) (fun d hp' => ∀ v H' m', Cells K Pr hp' m' H' → Step m H m' H' → Rep K (Pm Pr m') m' H' v d → Q v H') fun _ _ _ _ => False
def Yh (Γ : Gm) (act : Heap → R D) : Yd := ⟨{ Γ with act := act }, fun _ _ _ _ => False, ⟨none, none⟩⟩
abbrev hearX (X : Cx) (Ng : List Str) (x : Str) (sg : Scope) (g : Addr) (cdg : Value) (s : Shared) (H : Hp) : Cx := (cxOf C8.CX0 X.prog X.w X.K X.mg X.base Ng x sg g cdg X.A X.stack s H C8.E0).nox
/-- the statement that asks -/
inductive Asks (a : Str) : Stmt → S → Prop
  | ex {p1 p2 p3 : Pos} : Asks a (.Expr (.Call (.Name a p1) [] [] p2) p3) (.ex .act)
  | ret {p1 p2 p3 : Pos} : Asks a (.Return (some (.Call (.Name a p1) [] [] p2)) p3) (.ret .act)
def askQ : S → Ends → L2.St → VK
  | .ret _, B, _ => B.rt
  | _, B, σ => fun _ H => B.nx σ H
theorem asks_ps {X : Cx} {a : Str} {st : Stmt} {s0 : S} {t : TE} (h : Asks a st s0) (hp : ∀ p1 p2, PE X (.Call (.Name a p1) [] [] p2) t) : PSs X [st] (fun B σ H => t σ H (askQ s0 B σ)) := by
  cases h with
  | ex => exact pssWeak (pss_one (ps_expr (hp _ _) rfl)) fun B σ H q => q
  | ret => exact pssWeak (pss_one (ps_ret (hp _ _))) fun B σ H q => q
theorem Takes.len {X : Cx} {W : WX} (tk : Takes X W) : Takes X fun cls d σ H => σ.length = X.N.length → W cls d σ H := fun u s' ⟨a, B, sI, pins, σ, H, cls, d, e, I, nb, up, sky, na, os, ag, w⟩ =>
  tk u s' ⟨a, B, sI, pins, σ, H, cls, d, e, I, nb, up, sky, na, os, ag, w I.len⟩
section
variable {K : PySem.W.Frag} {Pr : Addr → Prop} {hp hp1 : Heap} {m m1 : List Addr} {H H1 : Hp} {y : Yx} {σ : L2.St} {n : Nat}
theorem blank_get {i : Nat} {x : Sl} (h : (List.replicate n Sl.none)[i]? = some x) : x = .none := by
  rw [List.getElem?_replicate] at h
  split at h
  · exact (Option.some.inj h).symm
  · cases h
theorem blank_fbd {g : Gh} : Fbd g (List.replicate n Sl.none) σ m = Pm g.Pr m := by
  funext a
  refine propext ⟨fun z => ?_, fun z => z.imp id .inr⟩
  rcases z with z | ⟨i, d, z, _⟩ | z
  · exact .inl z
  · cases blank_get z
  · exact .inr z
/-- the state of a def whose slots are empty -/
theorem blank_rel (C : Cells K Pr hp1 m1 H1) (st : Step m H m1 H1) (hl : σ.length = n) : StRel K ⟨Pr, H, m, y⟩ (List.replicate n Sl.none) hp1 m1 σ H1 := by
  refine ⟨by rw [List.length_replicate, hl], fun i x h => by rw [blank_get h]; trivial, (fun i j d e a h => nomatch blank_get h), C.cells, fun k d h => ?_, C.nd, C.pr, fun a o h no nt => st.keep a o h no nt, st.more, C.tabs, fun a h => ?_⟩
  · rw [blank_fbd]
    exact C.cell k d h
  · have h : H a ≠ none := h
    cases e : H a with
    | none => exact absurd e h
    | some o =>
      obtain ⟨o', e'⟩ := st.there a o e
      rw [e']
      exact fun z => by cases z
/-- what such a def has come to -/
theorem rel_done {env env1 : Env} {σ1 : L2.St} {m2 : List Addr} {H2 : Hp} (st : Step m H m1 H1) (S : StRel K ⟨Pr, H, m, y⟩ env hp1 m2 σ1 H2) (z : SStep env1 σ m1 H1 env σ1 m2 H2) : Cells K Pr hp1 m2 H2 ∧ Step m H m2 H2 := by
  refine ⟨⟨S.cells, fun k d h => ?_, S.nd, S.pr, S.tabs⟩, S.more, fun a o h n nt => S.frame a o h n nt, fun a o h => ?_, fun T t => z.tabs T (st.tabs T t)⟩
  · obtain ⟨a, o, z1, z2, z3⟩ := S.cell k d h
    exact ⟨a, o, z1, z2, z3.imp fun _ _ r => r.less fun a z => z.imp id .inr⟩
  · obtain ⟨o', h'⟩ := st.there a o h
    exact z.there a o' h'
end
/-- the def's promise, by its statements -/
theorem heard_gives {X : Cx} {Γ : Gm} {fn : Fn} {Ng : List Str} {x a q : Str} {sg : Scope} {g : Addr} {cdg : Value} {st0 : Stmt} {s0 : S} {h₀ : ExceptHandler} {hds : List ExceptHandler} {hs : Hs} {rest : List Stmt} {cr : List S} {pos : Pos} (hb : fn.body = .tryy [s0] hs :: cr) (hsl : fn.slots = Ng.length) (nd : Ng.Nodup) (one : 1 ≤ Ng.length) (ask : Asks a st0 s0)
    (hk : ∀ (s : Shared) (H : Hp) (act : Heap → R D), ∃ l, HsOk (Yh Γ act) (hearX X Ng x sg g cdg s H) (h₀ :: hds) hs l) (hr : ∀ (s : Shared) (H : Hp) (act : Heap → R D), PSs (hearX X Ng x sg g cdg s H) rest (tSs X.K (Yh Γ act) cr)) :
    LamX.GivesTo X Ng x sg g cdg (.Try [st0] (h₀ :: hds) [] [] pos :: rest) a q (TTh X.K Γ fn) := by
  intro f c' s H Q tl act0 known ⟨Pr, hp, m, act, C, told, ev⟩
  obtain ⟨l, hk⟩ := hk s H act
  obtain ⟨fl, h1, e1, ev⟩ := (RR.bind (r := calmly (evSs reprL { Γ with act := act } fn.body (List.replicate fn.slots Sl.none) hp)) ev).calm
  rw [hb] at e1
  obtain ⟨fl1, h2, e2, e3⟩ := bind_some (show R.bind (evS reprL (Yh Γ act).Γ (.tryy [s0] hs) (List.replicate fn.slots Sl.none) hp) _ = _ from e1)
  obtain ⟨fl0, h3, e4, e5⟩ := bind_some (show R.bind (evSs reprL (Yh Γ act).Γ [s0] (List.replicate fn.slots Sl.none) hp) _ = _ from e2)
  have len0 : ∀ {σ : L2.St}, σ.length = Ng.length → σ.length = fn.slots := fun h => h.trans hsl.symm
  have lenS : (L2.start Ng [V.ref f]).length = Ng.length := by
    unfold L2.start
    rw [List.length_append, List.length_map, List.length_replicate, List.length_singleton]
    omega
  let B0 : Ends := { nx := fun _ H' => Q .non H', rt := Q }
  let g0 : Gh := ⟨Pr, H, m, ⟨none, none⟩⟩
  have fin : ∀ {env : Env} {σ : L2.St} {m1 : List Addr} {H1 : Hp}, Step m H m1 H1 → After X.K (Yh Γ act) g0 B0 env σ m1 H1 fl h1 := fun {env σ m1 H1} st => by
    cases fl with
    | nx env' => exact fun σ' H' m' S' z => (show ∀ v H' m', Cells X.K Pr h1 m' H' → Step m H m' H' → Rep X.K (Pm Pr m') m' H' v .non → Q v H' from ev) .non H' m' (rel_done st S' z).1 (rel_done st S' z).2 .non
    | ret d => exact fun v env' σ' H' m' S' z rv => (show ∀ v H' m', Cells X.K Pr h1 m' H' → Step m H m' H' → Rep X.K (Pm Pr m') m' H' v d → Q v H' from ev) v H' m' (rel_done st S' z).1 (rel_done st S' z).2 rv
    | exc _ _ _ _ => exact (show False from ev).elim
    | brk _ => exact (show False from ev).elim
    | cont _ => exact (show False from ev).elim
  let B1 : Ends := { B0 with nx := tSs X.K (Yh Γ act) cr B0 }
  have mid : ∀ {env : Env} {σ : L2.St} {m1 : List Addr} {H1 : Hp}, Step m H m1 H1 → After X.K (Yh Γ act) g0 B1 env σ m1 H1 fl1 h2 := fun {env σ m1 H1} st => by
    cases fl1 with
    | nx env' => exact fun σ' H' m' S' z => ⟨g0, env', h2, m', rfl, S', fl, h1, e3, fin (rel_done st S' z).2⟩
    | ret d =>
      obtain ⟨rfl, rfl⟩ := rok_inj (show some (Out.ok (Flow.ret d) h2) = some (.ok fl h1) from e3)
      exact fin st
    | brk e =>
      obtain ⟨rfl, rfl⟩ := rok_inj (show some (Out.ok (Flow.brk e) h2) = some (.ok fl h1) from e3)
      exact fin st
    | cont e =>
      obtain ⟨rfl, rfl⟩ := rok_inj (show some (Out.ok (Flow.cont e) h2) = some (.ok fl h1) from e3)
      exact fin st
    | exc e c ns fs =>
      obtain ⟨rfl, rfl⟩ := rok_inj (show some (Out.ok (Flow.exc e c ns fs) h2) = some (.ok fl h1) from e3)
      exact fin st
  have blank : noExc (List.replicate fn.slots Sl.none) = true := List.all_eq_true.mpr fun x hx => by
    rw [List.eq_of_mem_replicate hx]
    rfl
  refine ⟨_, pss_cons (ps_try (X := hearX X Ng x sg g cdg s H) (W := fun _ _ _ _ => False) (l := l) (tb := fun W B σ H' => σ[0]? = some (some (.ref f)) ∧ H' c' = some (LamX.CodeO c' q) ∧ tl (fun cls d H'' => ∀ σ', σ'.length = Ng.length → W cls d σ' H'') H' (askQ s0 B σ)) rfl rfl nd LamX.takes0
    (fun W pn xe tk _ => asks_ps ask fun p1 p2 => act0 (fun cls d σ' H' => σ'.length = Ng.length → W cls d σ' H') pn xe _ p1 p2 (Takes.len tk) fun cls d σ' H' h => h σ') hk.clauses) (hr s H act), ?_⟩
  show (L2.start Ng [V.ref f])[0]? = some (some (V.ref f)) ∧ H c' = some (LamX.CodeO c' q) ∧ tl (fun cls d H'' => ∀ σ', σ'.length = Ng.length → wishCl X.K (fun _ _ _ _ => False) B1 l cls d σ' H'') H (askQ s0 B1 (L2.start Ng [V.ref f]))
  refine ⟨start_get rfl, known, told _ _ ?_⟩
  cases hact : act hp with
  | none =>
    cases ask with
    | ex =>
      have e4 : R.bind (R.bindS (act hp) _ _) _ = some (.ok fl0 h3) := e4
      rw [hact] at e4
      cases e4
    | ret =>
      have e4 : R.bind (R.bindS (act hp) _ _) _ = some (.ok fl0 h3) := e4
      rw [hact] at e4
      cases e4
  | some o =>
    cases o with
    | ok d h' =>
      intro v H' m' C' st rv
      cases ask with
      | ex =>
        have e4 : R.bind (R.bindS (act hp) (List.replicate fn.slots Sl.none) fun _ h => rok (.nx (List.replicate fn.slots Sl.none)) h) (fun fl h => match fl with
          | .nx env => evSs reprL (Yh Γ act).Γ [] env h
          | fl => rok fl h) = some (.ok fl0 h3) := e4
        rw [hact] at e4
        obtain ⟨rfl, rfl⟩ := rok_inj (show some (Out.ok (Flow.nx (List.replicate fn.slots Sl.none)) h') = some (.ok fl0 h3) from e4)
        obtain ⟨rfl, rfl⟩ := rok_inj (show some (Out.ok (Flow.nx (List.replicate fn.slots Sl.none)) h') = some (.ok fl1 h2) from e5)
        exact mid st _ H' m' (blank_rel C' st (len0 lenS)) SStep.refl
      | ret =>
        have e4 : R.bind (R.bindS (act hp) (List.replicate fn.slots Sl.none) fun d h => rok (.ret d) h) (fun fl h => match fl with
          | .nx env => evSs reprL (Yh Γ act).Γ [] env h
          | fl => rok fl h) = some (.ok fl0 h3) := e4
        rw [hact] at e4
        obtain ⟨rfl, rfl⟩ := rok_inj (show some (Out.ok (Flow.ret d) h') = some (.ok fl0 h3) from e4)
        obtain ⟨rfl, rfl⟩ := rok_inj (show some (Out.ok (Flow.ret d) h') = some (.ok fl1 h2) from e5)
        exact mid (env := List.replicate fn.slots Sl.none) (σ := L2.start Ng [V.ref f]) st v _ _ H' m' (blank_rel C' st (len0 lenS)) SStep.refl rv
    | err c ns fs h' =>
      intro H' m' d vs C' st hx hl r σ' hσ
      have out : fl0 = .exc (List.replicate fn.slots Sl.none) c ns fs ∧ h3 = h' := by
        cases ask with
        | ex =>
          have e4 : R.bind (R.bindS (act hp) (List.replicate fn.slots Sl.none) fun _ h => rok (.nx (List.replicate fn.slots Sl.none)) h) (fun fl h => match fl with
            | .nx env => evSs reprL (Yh Γ act).Γ [] env h
            | fl => rok fl h) = some (.ok fl0 h3) := e4
          rw [hact] at e4
          obtain ⟨h1, h2⟩ := rok_inj (show some (Out.ok (Flow.exc (List.replicate fn.slots Sl.none) c ns fs) h') = some (.ok fl0 h3) from e4)
          exact ⟨h1.symm, h2.symm⟩
        | ret =>
          have e4 : R.bind (R.bindS (act hp) (List.replicate fn.slots Sl.none) fun d h => rok (.ret d) h) (fun fl h => match fl with
            | .nx env => evSs reprL (Yh Γ act).Γ [] env h
            | fl => rok fl h) = some (.ok fl0 h3) := e4
          rw [hact] at e4
          obtain ⟨h1, h2⟩ := rok_inj (show some (Out.ok (Flow.exc (List.replicate fn.slots Sl.none) c ns fs) h') = some (.ok fl0 h3) from e4)
          exact ⟨h1.symm, h2.symm⟩
      obtain ⟨rfl, rfl⟩ := out
      have e5 : (if noExc (List.replicate fn.slots Sl.none) then evHs reprL (Yh Γ act).Γ hs c ns fs (List.replicate fn.slots Sl.none) h3 else none) = some (.ok fl1 h2) := e5
      rw [if_pos blank] at e5
      exact hk.wish (g := g0) rfl (blank_rel C' st (len0 hσ)) blank hx hl (by rw [blank_fbd]; exact r) e5 (mid st)
end Ev
end

section
set_option Elab.async false
set_option linter.all false
set_option maxRecDepth 100000
namespace Ev
open PySem PySem.Spec L2 PyProof.Rows
variable [TabList]
/-! ### x(lambda: e), by the evaluator -/
structure HearSig where
  name : Str
  idx : Nat
structure HearFact (Γ : Gm) (X : Cx) (s : HearSig) : Prop where
  ex : ∃ g pg bg sg dV kV doc pm cdv ct oc an od osl Ng a fn Γ', X.mg s.name = some (.ref g) ∧ PySem.W.keepIn X.K (.ref g) = true ∧ X.K.lookup g = some ⟨oc, od, .func (PySem.W.fnOf s.name s.name pg bg sg dV kV doc pm an cdv ct), osl⟩ ∧ PySem.W.codeIn X.K cdv s.name = true ∧
    L2.Binds X.K (PySem.W.fnOf s.name s.name pg bg sg dV kV doc pm an cdv ct) [a] [] ∧ FnScope Ng [a] sg ∧ Ng[0]? = some a ∧ Vis sg a ∧ okName a = true ∧ (∀ q, LamX.GivesTo X Ng s.name sg g cdv bg a q (TTh X.K Γ' fn)) ∧ Γ.fnA s.idx = evFnA reprL Γ' fn
/-- the def that makes it: its code object, that one's table -/
structure LamHere (X : Cx) : Prop where
  ex : ∃ c P, LamX.TabB X.base X.mg c P ∧ X.env.code = .ref c ∧ (P, X.env.qual ++ "<lambda>") ∈ TabList.T ∧ ∀ p ∈ TabList.T, p.1 = P → p.2 = X.env.qual ++ "<lambda>"
def noParams : Arguments → Bool
  | ⟨[], [], none, [], [], none, []⟩ => true
  | _ => false
theorem noParams_ok {ps : Arguments} (h : noParams ps = true) : (∀ env, defaultsOf ps env = ([], [])) ∧ ∀ (q : Str) (body : Expr) (scope : Scope) (cl : List (Str × Addr)) (pm cv ctv : Value), bindArgs (PySem.W.kla_fn "<lambda>" q ps body scope cl pm cv ctv) ⟨[], []⟩ = pure [] := by
  unfold noParams at h
  split at h
  · exact ⟨fun _ => rfl, fun _ _ _ _ _ _ _ => rfl⟩
  · cases h
section
variable {K : PySem.W.Frag} {g : Gh} {env : Env} {hp : Heap} {m : List Addr} {σ : L2.St} {H H1 : Hp}
theorem Made.step (k : Made TabList.T H H1) : Step m H m H1 := ⟨⟨[], by simp, by simp⟩, fun a o h _ nt => k.ext a o h fun ps z => nt ps z, k.there, fun _ _ => k.tabs⟩
theorem StRel.made (S : StRel K g env hp m σ H) (k : Made TabList.T H H1) : StRel K g env hp m σ H1 := by
  have st : Step m H m H1 := k.step
  have some_ : ∀ {a : Addr}, H a ≠ none → H1 a ≠ none := fun {a} h => by
    cases e : H a with
    | none => exact absurd e h
    | some o =>
      obtain ⟨o', e'⟩ := k.there a o e
      rw [e']
      exact fun z => by cases z
  refine ⟨S.len, fun i x hx => (S.slots i x hx).step S.at_m st, S.apart, S.cells, fun j d h => ?_, S.nd, fun a h => some_ (S.pr a h), fun a o h n nt => k.ext a o (S.frame a o h n nt) fun ps z => nt ps z, S.more, k.tabs, fun a h => some_ (S.has a h)⟩
  obtain ⟨a, o, h1, h2, h3⟩ := S.cell j d h
  exact ⟨a, o, h1, k.ext a o h2 (fun ps z => h3.dat.nt ps z), h3.imp fun _ _ r => r.step S.at_m st⟩
end
section
variable {X : Cx} {Y : Yd} {g : Gh}
theorem e_heard {s : HearSig} {x : Str} {i k : Nat} {params : Arguments} {body : Expr} {scope : Scope} {e : E} {p lpos pos : Pos} (F : HearFact Y.Γ X s) (here : LamHere X) (hx : s.name = x) (hi : s.idx = i) (gl : Gl X x) (dx : (x == ("__debug__" : Str)) = false) (room : Room (k + 2) X.A) (L : LamX.lamSB X.env.scope scope = true) (np : noParams params = true)
    (inner : ∀ (A : Around) (outer : List PySem.Env) (s : Shared) (H : Hp) (W : XK) (f c' : Addr), Room k (A.deeper (LamX.lamEnv X scope s.heap.objs.size f c')) → PE (LamX.lamCx X A outer s H W scope f c') body (tE X.K { Y with W := fun cls d _ H => W cls d H } g e)) :
    PE X (.Call (.Name x p) [.Lambda params body scope lpos] [] pos) (tE X.K Y g (.heard i e)) := by
  subst hx hi
  obtain ⟨f, pg, bg, sg, dV, kV, doc, pm, cdv, ct, oc, an, od, osl, Ng, a, fn, Γ', at_, kept, lk, code, binds, sc, first, vis, ok, gives, same⟩ := F.ex
  obtain ⟨c, P, TB, hcode, hm, one⟩ := here.ex
  obtain ⟨defs, noargs⟩ := noParams_ok np
  refine peWeak (pe_heard gl at_ kept lk code binds sc first vis (gives _) TB hcode hm one room (LamX.lamS_by L) (defs _) (fun q cl pm cv ctv => noargs q body scope cl pm cv ctv) (t := fun W => tE X.K { Y with W := fun cls d _ H => W cls d H } g e) inner dx (okName_of ok).1 (okName_of ok).2) fun σ H Q ⟨env, hp, m, S, ev⟩ => ?_
  obtain ⟨d, hp', ev, q⟩ := (show RR (calmly (Y.Γ.fnA s.idx (fun h => evE reprL Y.Γ e env h) hp)) _ _ from ev).calm
  refine ⟨S.tabs, fun H1 made => ?_⟩
  have S1 := S.made made
  refine ⟨fun a => g.Pr a ∨ isOwn env σ a, hp, m, fun h => evE reprL Y.Γ e env h, S1.out, fun W Q' told => ⟨env, hp, m, S1, told.imp (fun d hp' q v H' m' S' st r => q v H' m' S'.out st (by rw [pm_fbd]; exact r)) fun c ns fs hp' q H' m' d vs S' st hx hl r => q H' m' d vs S'.out st hx hl (by rw [pm_fbd]; exact r)⟩, ?_⟩
  rw [same] at ev
  exact RR.of ev fun v H' m' C st r => q v H' m' (S1.after st C) (made.step.trans st) (by rw [pm_fbd] at r; exact r)
end
end Ev
end

section
set_option Elab.async false
set_option linter.all false
set_option maxRecDepth 100000
namespace Ev
open PySem L2 PyProof.Rows
variable [TabList]
/-! ### the checker: what is known of a def ahead -/
structure Sig where
  name : Str
  idx : Nat
  modes : List Bool
  ps : List Str
  kbl : List (Nat × List Str × List Nat)
  q : Bool
structure Ck where
  N : List Str
  sc : Scope
  fn : Str → Bool
  fns : List Sig
  cons : List (Str × D)
  blts : List Str
  quiet : Bool
  calm : Bool
  errs : List ErrSig
  xns : List (Str × List Nat × List Nat)
  xfs : List (List Nat × Str)
  held : Bool
  lv : Nat
  hears : List HearSig
  lam : Bool
structure FnFact (Y : Yd) (X : Cx) (lv : Nat) (s : Sig) : Prop where
  ex : ∃ k f fd, FnG X.prog X.w X.K X.mg X.base (L2.CX X.prog X.w) s.q k f fd s.ps (spF X.K (Y.Γ.fn s.idx) s.modes) ∧ k ≤ lv ∧ X.mg s.name = some (.ref f) ∧ PySem.W.keepIn X.K (.ref f) = true ∧ Binds X.K fd s.ps [] ∧ ∀ q ∈ s.kbl, KB X.K fd s.ps q.1 q.2.1 q.2.2
structure Good (Y : Yd) (X : Cx) (ck : Ck) : Prop where
  N : X.N = ck.N
  nd : X.N.Nodup
  sc : X.env.scope = ck.sc
  fn : X.fn = ck.fn
  calm : ck.calm = true → X.calm = true
  gu : ck.quiet = true → X.A.guards = some []
  un : X.A.units + 66 < cLine
  blt : ∀ x ∈ ck.blts, X.mg x = none
  fns : ∀ s ∈ ck.fns, FnFact Y X ck.lv s
  cons : ∀ p ∈ ck.cons, ∃ v u, X.mg p.1 = some u ∧ RelV v u ∧ ∀ Fb m H, Rep X.K Fb m H v p.2
  tk : Takes X Y.W
  errs : ck.calm = true → ∀ s ∈ ck.errs, ErrFact X s
  xns : ∀ p ∈ ck.xns, XnFact X p.1 p.2.1 p.2.2
  xfs : ∀ p ∈ ck.xfs, XfFact X p.1 p.2
  held : ck.held = true → Held Y X
  room : ck.calm = true → Room ck.lv X.A
  hears : ∀ s ∈ ck.hears, HearFact Y.Γ X s
  lam : ck.lam = true → LamHere X ∧ Room (ck.lv + 2) X.A
/-- in a try's body; in an except suite -/
def Ck.tr (ck : Ck) : Ck := { ck with held := false }
def Ck.suite (ck : Ck) : Ck := { ck with calm := false, fns := [], held := true, hears := [], lam := false }
/-- in a lambda -/
def Ck.lamc (ck : Ck) (scope : Scope) : Ck := { ck with sc := scope, fn := fun _ => false, calm := true, quiet := false, fns := ck.fns.filter fun s => !s.q, errs := [], held := false, hears := [], lam := false }
def Ck.blk (ck : Ck) (scope : Scope) : Ck := { ck with sc := relS scope ck.sc, fn := fun x => scope.names.lookup x == some .cell, held := false, hears := [], lam := false }
theorem Good.blk {Y : Yd} {X : Cx} {ck : Ck} (G : Good Y X ck) (s : Shared) (H : Hp) (scope : Scope) (cl : List (Str × Addr)) (C : Addr) (fp : List Addr) : Good Y.calm (X.blk s H scope (compEnvC scope cl C X.env) fp) (ck.blk scope) := by
  refine ⟨G.N, G.nd, ?_, rfl, G.calm, G.gu, G.un, G.blt, fun s hs => ⟨(G.fns s hs).ex⟩, G.cons, fun u s' ⟨_, _, _, _, _, _, _, _, _, _, _, _, _, _, _, _, z⟩ => z.elim, fun hc s hs => ⟨(G.errs hc s hs).ex⟩, fun p hp => ⟨(G.xns p hp).ex⟩, G.xfs, (fun z => Bool.noConfusion z), G.room, (fun s hs => nomatch hs), fun z => Bool.noConfusion z⟩
  show relS scope X.env.scope = relS scope ck.sc
  rw [G.sc]
theorem takes_never {X : Cx} : Takes X fun _ _ _ _ => False := LamX.takes0
theorem Good.tr {Y : Yd} {X : Cx} {ck : Ck} (G : Good Y X ck) {W : WX} {pn : List (Addr × Obj)} {xe : Value → Shared → Prop} (tk : Takes (X.tr pn xe) W) : Good { Y with W := W } (X.tr pn xe) ck.tr :=
  ⟨G.N, G.nd, G.sc, G.fn, G.calm, G.gu, G.un, G.blt, fun s hs => ⟨(G.fns s hs).ex⟩, G.cons, tk, fun hc s hs => ⟨(G.errs hc s hs).ex⟩, fun p hp => ⟨(G.xns p hp).ex⟩, G.xfs, (fun z => Bool.noConfusion z), G.room, fun s hs => ⟨(G.hears s hs).ex⟩, fun z => ⟨⟨(G.lam z).1.ex⟩, (G.lam z).2⟩⟩
theorem Good.suite {Y : Yd} {X : Cx} {ck : Ck} (G : Good Y X ck) {a dx : Addr} {c : Nat} {oe : Obj} {pn : List (Addr × Obj)} (hz : Zc (.ref (TabList.cls c)) (some dx) oe) (hf : ∃ vs, oe.data = .fields vs) : Good (Y.held a dx c) (X.suite a ((a, oe) :: pn)) ck.suite :=
  ⟨G.N, G.nd, G.sc, G.fn, fun z => Bool.noConfusion z, G.gu, G.un, G.blt, (fun s hs => nomatch hs), G.cons, takes_never, fun z => Bool.noConfusion z, fun p hp => ⟨(G.xns p hp).ex⟩, G.xfs, (fun _ => ⟨X, a, dx, c, oe, pn, rfl, rfl, hz, hf⟩), (fun z => Bool.noConfusion z), (fun s hs => nomatch hs), fun z => Bool.noConfusion z⟩
theorem Good.lamc {Y : Yd} {X : Cx} {ck : Ck} (G : Good Y X ck) {A : Around} {outer : List PySem.Env} {s : Shared} {H : Hp} {W : XK} {scope : Scope} {f c' : Addr} (room : Room ck.lv (A.deeper (LamX.lamEnv X scope s.heap.objs.size f c'))) :
    Good { Y with W := fun cls d _ H => W cls d H } (LamX.lamCx X A outer s H W scope f c') (ck.lamc scope) := by
  refine ⟨G.N, G.nd, rfl, rfl, fun _ => rfl, (fun z => Bool.noConfusion z), ?_, G.blt, fun s hs => ⟨(G.fns s (List.mem_filter.mp hs).1).ex⟩, G.cons, takes_of rfl rfl rfl rfl, (fun _ s hs => nomatch hs), fun p hp => ⟨(G.xns p hp).ex⟩, G.xfs, (fun z => Bool.noConfusion z), fun _ => room, (fun s hs => nomatch hs), fun z => Bool.noConfusion z⟩
  have := room.un
  show (A.deeper (LamX.lamEnv X scope s.heap.objs.size f c')).units + 66 < cLine
  omega
/-! names -/
def Ck.vis (ck : Ck) (i : Nat) (x : Str) : Bool := decide (ck.N[i]? = some x) && (match ck.sc.names.lookup x with | some .local => true | some .cell => true | some .free => true | _ => false) && okName x
def Ck.loc (ck : Ck) (i : Nat) (x : Str) : Bool := decide (ck.N[i]? = some x) && (match ck.sc.names.lookup x with | some .local => true | some .cell => ck.fn x | _ => false)
def Ck.gl (ck : Ck) (x : Str) : Bool := (match ck.sc.names.lookup x with | some .globalImplicit => true | _ => false) && okName x
def Ck.blt (ck : Ck) (x : Str) : Bool := ck.gl x && decide (x ∈ ck.blts)
section
variable {Y : Yd} {X : Cx} {ck : Ck}
theorem Good.vis (G : Good Y X ck) {i : Nat} {x : Str} (h : ck.vis i x = true) : X.N[i]? = some x ∧ Vis X.env.scope x ∧ (x == ("__debug__" : Str)) = false ∧ (x == ("__classdict__" : Str)) = false := by
  unfold Ck.vis at h
  simp only [andI, decI] at h
  obtain ⟨⟨h1, h2⟩, h3⟩ := h
  obtain ⟨h4, h5⟩ := okName_of h3
  refine ⟨by rw [G.N]; exact h1, ?_, h4, h5⟩
  unfold Vis
  rw [G.sc]
  split at h2
  · exact .inl (by assumption)
  · exact .inr (.inl (by assumption))
  · exact .inr (.inr (by assumption))
  · cases h2
theorem Good.loc (G : Good Y X ck) {i : Nat} {x : Str} (h : ck.loc i x = true) : X.N[i]? = some x ∧ Loc X.env.scope x ∧ (X.fn x = true ∨ X.env.scope.names.lookup x = some .local) := by
  unfold Ck.loc at h
  simp only [andI, decI] at h
  obtain ⟨h1, h2⟩ := h
  refine ⟨by rw [G.N]; exact h1, ?_⟩
  unfold L2.Loc
  rw [G.sc, G.fn]
  split at h2
  · rename_i e
    exact ⟨.inl e, .inr e⟩
  · rename_i e
    exact ⟨.inr e, .inl h2⟩
  · cases h2
theorem Good.gl (G : Good Y X ck) {x : Str} (h : ck.gl x = true) : Gl X x ∧ (x == ("__debug__" : Str)) = false := by
  unfold Ck.gl at h
  simp only [andI] at h
  obtain ⟨h1, h2⟩ := h
  refine ⟨?_, (okName_of h2).1⟩
  show X.env.scope.names.lookup x = _
  rw [G.sc]
  split at h1
  · assumption
  · cases h1
theorem Good.isBlt (G : Good Y X ck) {x : Str} (h : ck.blt x = true) : Gl X x ∧ X.mg x = none := by
  unfold Ck.blt at h
  simp only [andI, decI] at h
  exact ⟨(G.gl h.1).1, G.blt x h.2⟩
/-! operators -/
def binOf : Operator → Option Op2
  | .Add => some .add
  | .Sub => some .sub
  | .Mult => some .mul
  | .FloorDiv => some .fdiv
  | .Mod => some .mod
  | .Pow => some .pow
  | _ => none
def cmpOf : CmpOp → Option Op2
  | .Eq => some .eq
  | .NotEq => some .ne
  | .Lt => some .lt
  | .LtE => some .le
  | .Gt => some .gt
  | .GtE => some .ge
  | .Is => some .is
  | .IsNot => some .isnot
  | .In => some .inn
  | .NotIn => some .nin
theorem bin_ok {op : Operator} {o : Op2} (h : binOf op = some o) : OpR X (binaryOp op) (rO2 X.K o) := by
  cases op <;> simp only [binOf, reduceCtorEq, Option.some.injEq] at h <;> subst h
  · exact ro_add
  · exact ro_sub
  · exact ro_mul
  · exact ro_mod
  · exact ro_pow
  · exact ro_fdiv
theorem cmp_ok (hu : X.A.units + 66 < cLine) {op : CmpOp} {o : Op2} (h : cmpOf op = some o) : OpR X (compareOp op) (rO2 X.K o) := by
  cases op <;> simp only [cmpOf, Option.some.injEq] at h <;> subst h
  · exact ro_eq hu
  · exact ro_ne hu
  · exact ro_lt
  · exact ro_le
  · exact ro_gt
  · exact ro_ge
  · exact ro_is
  · exact ro_isnot
  · exact ro_in hu
  · exact ro_nin hu
/-! shapes -/
def notSlice : Expr → Bool
  | .Slice .. => false
  | _ => true
theorem plainIx_of {e : Expr} (h : notSlice e = true) : PlainIx e := by
  cases e <;> first | exact fun _ _ => rfl | cases h
def notSet : Expr → Bool
  | .Set .. => false
  | _ => true
theorem notSet_ok {e : Expr} (h : notSet e = true) (env : PySem.Env) : ∀ x, foldedSetIterable e env x = pure x := by
  cases e <;> first | exact fun _ => rfl | cases h
def notComp : Expr → Bool
  | .ListComp .. | .SetComp .. | .DictComp .. => false
  | _ => true
theorem notComp_ok {e : Expr} (h : notComp e = true) (t : Option Expr) (l : Nat) (env : PySem.Env) : swapsWith e t l env = pure false := by
  cases e <;> first | rfl | cases h
/-- a test by its value -/
def testPlain : Expr → Bool
  | .BoolOp .. | .IfExp .. | .Compare .. => false
  | .UnaryOp .Not _ _ => false
  | _ => true
theorem testPlain_ok {e : Expr} (h : testPlain e = true) (env : PySem.Env) (whole : Sem Value) : PySem.isTrue e env whole = (do let v ← whole; standAt e.pos; holding [v] (truthy v)) := by
  cases e <;> first | rfl | cases h | skip
  rename_i op e p
  cases op <;> first | rfl | cases h
theorem star_all : ∀ {es : List Expr}, es.all notStar = true → ∀ (pos : Pos) (env : PySem.Env), (backTo pos (starEach es env)).any (·.1) = false
  | [], _, _, _ => rfl
  | e :: es, h, pos, env => by
    simp only [List.all_cons, andI] at h
    rw [star_cons h.1]
    exact star_all h.2 pos env
theorem kw_all : ∀ {kws : List Keyword} {ks : List Str}, kws.map (·.arg) = ks.map some → ∀ (pos : Pos) (env : PySem.Env), (backToKw pos (keywordEach kws env)).all (·.1.isSome) = true ∧ (backToKw pos (keywordEach kws env)).filterMap (·.1) = ks ∧ (backToKw pos (keywordEach kws env)).any (·.1.isNone) = false
  | [], [], _, _, _ => ⟨rfl, rfl, rfl⟩
  | [], _ :: _, h, _, _ => by cases h
  | _ :: _, [], h, _, _ => by cases h
  | ⟨nm, e, kp⟩ :: kws, k :: ks, h, pos, env => by
    simp only [List.cons.injEq, List.map_cons] at h
    obtain ⟨h1, h2⟩ := h
    subst h1
    obtain ⟨a1, a2, a3⟩ := kw_all h2 pos env
    refine ⟨?_, ?_, ?_⟩
    · show (true && _) = true
      exact a1
    · show k :: _ = k :: ks
      rw [← a2]
      rfl
    · show (false || _) = false
      exact a3
theorem e_neg {e : Expr} {c : E} {g : Gh} {pos : Pos} (he : PE X e (tV X.K Y g c)) : PE X (.UnaryOp .USub e pos) (tE X.K Y g (.op1 .neg c)) :=
  peWeak (pe_un un_neg he) fun σ H Q q => by
    obtain ⟨env, hp, m, S, ev⟩ := sE_op1 q
    refine ⟨env, hp, m, S, ev.imp (fun d hp' q' v H1 m1 S1 st1 r1 => ?_) fun _ _ _ _ x => x⟩
    obtain ⟨Fb, m2, x, r, hf, hx, ho, qq⟩ := q' v H1 m1 S1 st1 r1
    cases x <;> simp only [o1, reduceCtorEq, Option.some.injEq] at ho
    subst ho
    obtain rfl := hx.int_inv
    exact ⟨_, rfl, qq _ _ (Evl.Ex.refl _) (.int _)⟩
/-! targets -/
mutual
def chkTg (ck : Ck) : Tg → Expr → Bool
  | .name i, .Name x _ => ck.loc i x
  | .tup ts, .Tuple es _ _ => ck.calm && chkTgs ck ts es
  | _, _ => false
def chkTgs (ck : Ck) : List Tg → List Expr → Bool
  | [], [] => true
  | t :: ts, e :: es => chkTg ck t e && chkTgs ck ts es
  | _, _ => false
end
theorem asgEach_cons {e : Expr} (h : notStar e = true) (es : List Expr) (env : PySem.Env) : assignEach (e :: es) env = (false, assign e env) :: assignEach es env := by
  cases e <;> first | rfl | cases h
theorem asgEach_ok : ∀ {es : List Expr}, es.all notStar = true → ∀ env : PySem.Env, (assignEach es env).length = es.length ∧ (assignEach es env).findIdx? (·.1) = none
  | [], _, _ => ⟨rfl, rfl⟩
  | e :: es, h, env => by
    simp only [List.all_cons, andI] at h
    obtain ⟨a1, a2⟩ := asgEach_ok h.2 env
    rw [asgEach_cons h.1]
    refine ⟨by simp [a1], ?_⟩
    rw [List.findIdx?_cons]
    simp [a2]
theorem chkTg_star {t : Tg} {e : Expr} (h : chkTg ck t e = true) : notStar e = true := by
  cases t <;> cases e <;> first | rfl | (simp [chkTg] at h)
theorem chkTgs_star : ∀ {ts : List Tg} {es : List Expr}, chkTgs ck ts es = true → es.all notStar = true ∧ es.length = ts.length
  | [], [], _ => ⟨rfl, rfl⟩
  | [], _ :: _, h => by simp [chkTgs] at h
  | _ :: _, [], h => by simp [chkTgs] at h
  | t :: ts, e :: es, h => by
    simp only [chkTgs, Bool.and_eq_true] at h
    obtain ⟨a1, a2⟩ := chkTgs_star h.2
    refine ⟨?_, by simp [a2]⟩
    rw [List.all_cons, chkTg_star h.1, a1]
    rfl
mutual
theorem tg_sound (G : Good Y X ck) : ∀ {t : Tg} {e : Expr}, chkTg ck t e = true → PG X e (gT X.K t)
  | .name i, e, h => by
    cases e <;> simp only [chkTg, reduceCtorEq] at h
    obtain ⟨h1, h2, h3⟩ := G.loc h
    exact g_name G.nd h1 h2 h3
  | .tup ts, e, h => by
    cases e <;> simp only [chkTg, reduceCtorEq] at h
    rw [Bool.and_eq_true] at h
    obtain ⟨a1, a2⟩ := chkTgs_star h.2
    obtain ⟨b1, b2⟩ := asgEach_ok a1 X.env
    exact g_tup (G.calm h.1) (tgs_sound G h.2) (b1.trans a2) b2
theorem tgs_sound (G : Good Y X ck) : ∀ {ts : List Tg} {es : List Expr}, chkTgs ck ts es = true → PGs X es (gTs X.K ts)
  | [], [], _ => g_nil
  | [], _ :: _, h => by simp [chkTgs] at h
  | _ :: _, [], h => by simp [chkTgs] at h
  | t :: ts, e :: es, h => by
    simp only [chkTgs, Bool.and_eq_true] at h
    exact g_cons (tg_sound G h.1) (tgs_sound G h.2) (asgEach_cons (chkTg_star h.1) _ _)
end
/-- a target's names and slots -/
def tgOwn : Nat → Expr → List Str
  | _, .Name x _ => [x]
  | n + 1, .Tuple es _ _ => es.flatMap (tgOwn n)
  | _, _ => []
def ownOf (ck : Ck) (slots : List Nat) : List (Str × Nat) := slots.map fun i => (ck.N.getD i "", i)
theorem ownOf_snd {slots : List Nat} : (ownOf ck slots).map (·.2) = slots := by
  unfold ownOf
  rw [List.map_map]
  exact List.map_id' _
end
end Ev
end

section
set_option Elab.async false
set_option linter.all false
set_option maxRecDepth 100000
namespace Ev
open PySem L2 PyProof.Rows
variable [TabList]
/-! ### the checker of expressions -/
inductive Md where
  | e | v | t | f | i (b : Bool) | w (b : Bool)
  deriving DecidableEq
def Md.plain (md : Md) (x : Expr) : Bool := match md with
  | .f => false
  | .t => testPlain x
  | _ => true
def nameIs (x : Expr) (p : Str → Bool) : Bool := match x with
  | .Name y _ => p y
  | _ => false
def sameInts : List D → List D → Bool
  | [], [] => true
  | .int a :: as, .int b :: bs => decide (a = b) && sameInts as bs
  | _, _ => false
theorem sameInts_eq : ∀ {as bs : List D}, sameInts as bs = true → as = bs
  | [], [], _ => rfl
  | [], _ :: _, h => by simp [sameInts] at h
  | a :: as, bs, h => by
    cases a <;> first | (simp [sameInts] at h; done) | skip
    cases bs with
    | nil => simp [sameInts] at h
    | cons b bs =>
      cases b <;> first | (simp [sameInts] at h; done) | skip
      simp only [sameInts, andI, decI] at h
      rw [h.1, sameInts_eq h.2]
def cstOk (ck : Ck) (d : D) (x : Expr) : Bool := match d, x with
  | .int i, .Constant (.int j) _ _ => decide (i = j)
  | .bl i, .Constant (.bool j) _ _ => decide (i = j)
  | .str i, .Constant (.str j) _ _ => decide (i = j)
  | .non, .Constant .none _ _ => true
  | .str i, .Name y _ => ck.gl y && ck.cons.any fun p => decide (p.1 = y) && (match p.2 with | .str j => decide (i = j) | _ => false)
  | .tup ds, .Name y _ => ck.gl y && ck.cons.any fun p => decide (p.1 = y) && (match p.2 with | .tup es => sameInts ds es | _ => false)
  | _, _ => false
/-- a constant of the module, by its place -/
def bltNm : Op1 → Option (Str × Bool)
  | .len => some ("len", true)
  | .sorted => some ("sorted", true)
  | .sum => some ("sum", true)
  | .any => some ("any", true)
  | .all => some ("all", true)
  | .abs => some ("abs", true)
  | .repr => some ("repr", true)
  | .tuple => some ("tuple", false)
  | .list => some ("list", false)
  | .int => some ("int", false)
  | _ => none
def isWalk : Md → Bool
  | .i _ => true
  | _ => false
def Md.b : Md → Bool
  | .i b => b
  | .w b => b
  | _ => false
def isTupT : Expr → Bool
  | .Tuple .. => true
  | _ => false
def notCall : Expr → Bool
  | .Call .. => false
  | _ => true
def noE : Expr := .Constant .none 0 ⟨0, 0, 0, 0⟩
def writeModes (modes : List Bool) (perm : List Nat) (n : Nat) : List Bool := (List.range n).map fun t => ((perm.zip modes).find? fun p => p.1 == t).elim false (·.2)
mutual
def chk (ck : Ck) (md : Md) (te : Expr) : E → Expr → Bool
  | .cst d, x => cstOk ck d x && md.plain x
  | .var n, x => nameIs x (ck.vis n) && md.plain x
  | .view n, x => nameIs x (ck.vis n) && (match md with | .v => true | .w false => true | .i false => true | _ => false)
  | .peek n, x => nameIs x (ck.vis n) && (match md with | .v => true | .w _ => true | .i _ => true | _ => false)
  | .tup cs, x => (match x with
      | .Tuple es _ _ => decide (cs.length ≤ 1000) && chkEs ck cs es
      | _ => false) && md.plain x
  | .lst cs, x => (match x with
      | .List es _ => decide (cs.length ≤ 1000) && chkEs ck cs es
      | _ => false) && (md.plain x || md == .f)
  | .cell a, x => chk ck .f noE a x && md.plain x
  | .op1 o a, x => (match o, x with
      | .neg, .UnaryOp .USub y _ => chk ck .v noE a y && md.plain x
      | .not, .UnaryOp .Not y _ => if md = .t then chk ck .t noE a y else (chk ck .v noE a y && md.plain x)
      | .rev, .Subscript y (.Slice none none (some (.UnaryOp .USub (.Constant (.int k) _ _) _)) _) _ => decide (k = 1) && chk ck .v noE a y && (md.plain x || md == .f)
      | .range, .Call (.Name nm _) [y] [] _ => decide (nm = "range") && ck.blt nm && notStar y && isWalk md && chk ck .v noE a y
      | .sset, .Call (.Name nm _) [.Call (.Name n2 _) [y] [] _] [] _ => decide (nm = "sorted") && decide (n2 = "set") && ck.calm && ck.blt nm && ck.blt n2 && notStar y && chk ck .v noE a y && md.plain x
      | o, .Call (.Name nm _) [y] [] _ => (match bltNm o with | some (z, _) => decide (nm = z) | none => false) && ck.calm && (decide (o ≠ .repr) || ck.quiet) && ck.blt nm && notStar y && chk ck .v noE a y && md.plain x
      | o, .Call (.Name nm _) [y, .Name ty _] [] _ => decide (nm = "isinstance") && decide (isaOf o = some ty) && ck.blt nm && ck.blt ty && notStar y && chk ck .v noE a y && md.plain x
      | _, _ => false)
  | .op2 o a b, x => (match x with
      | .BinOp y op z _ => decide (binOf op = some o) && chk ck .v noE a y && chk ck .v noE b z && md.plain x
      | .Compare y [op] [z] _ => decide (cmpOf op = some o) && !(behindInMarks op z) && chk ck .v noE a y && chk ck .v noE b z && (md == .t || md.plain x)
      | .Subscript y (.Slice (some z) none none _) _ => decide (o = .sfrom) && chk ck .v noE a y && chk ck .v noE b z && md.plain x
      | .Subscript y (.Slice none (some z) none _) _ => decide (o = .sto) && chk ck .v noE a y && chk ck .v noE b z && md.plain x
      | .Subscript y z _ => decide (o = .ix) && notSlice z && chk ck .v noE a y && chk ck .v noE b z && md.plain x
      | .Call (.Attribute y nm ap) [z] [] cp => decide (o = .join) && decide (nm = "join") && (ap.endLine == cp.line) && notCall y && notStar z && chk ck .v noE a y && chk ck .v noE b z && md.plain x
      | .Call (.Name nm _) [y, z] [] _ => ck.calm && ck.blt nm && notStar y && notStar z && chk ck .v noE a y && chk ck .v noE b z &&
          (match o with
            | .range => decide (nm = "range") && isWalk md
            | .max => decide (nm = "max") && md.plain x
            | .min => decide (nm = "min") && md.plain x
            | _ => false)
      | _ => false)
  | .op3 o a b c, x => (match x with
      | .Subscript y (.Slice (some z) (some u) none _) _ => decide (o = .slice) && chk ck .v noE a y && chk ck .v noE b z && chk ck .v noE c u && md.plain x
      | .Call (.Name nm _) [y, z, u] [] _ => decide (o = .range) && decide (nm = "range") && ck.blt nm && notStar y && notStar z && notStar u && isWalk md && chk ck .v noE a y && chk ck .v noE b z && chk ck .v noE c u
      | _ => false)
  | .chain o p a b c, x => (match x with
      | .Compare y [op, op'] [z, u] _ => decide (cmpOf op = some o) && decide (cmpOf op' = some p) && !(lastMarks [op, op'] [z, u]) && chk ck .v noE a y && chk ck .v noE b z && chk ck .v noE c u && (md == .e || md == .v || md == .t)
      | _ => false)
  | .and a b, x => (match x with
      | .BoolOp .And [y, z] _ => (if md = .t then chk ck .t noE a y && chk ck .t noE b z else chk ck .e noE a y && chk ck .e noE b z && md.plain x)
      | .BoolOp .And (y :: z :: u :: r) p => (if md = .t then chk ck .t noE a y && chk ck .t noE b (.BoolOp .And (z :: u :: r) p) else chk ck .e noE a y && chk ck .e noE b (.BoolOp .And (z :: u :: r) p) && md.plain x)
      | _ => false)
  | .or a b, x => (match x with
      | .BoolOp .Or [y, z] _ => (if md = .t then chk ck .t noE a y && chk ck .t noE b z else chk ck .e noE a y && chk ck .e noE b z && md.plain x)
      | .BoolOp .Or (y :: z :: u :: r) p => (if md = .t then chk ck .t noE a y && chk ck .t noE b (.BoolOp .Or (z :: u :: r) p) else chk ck .e noE a y && chk ck .e noE b (.BoolOp .Or (z :: u :: r) p) && md.plain x)
      | _ => false)
  | .ite t a b, x => (match x with
      | .IfExp u y z _ => chk ck .t noE t u && chk ck .e noE a y && chk ck .e noE b z && md.plain x
      | _ => false)
  | .call n cs, x => (match x with
      | .Call (.Name nm _) es [] _ => ck.gl nm && (match ck.fns.find? fun s => decide (s.name = nm) && decide (s.idx = n) && (!s.q || ck.quiet) && ck.calm with
          | some s => chkMs ck s.modes cs es
          | none => false)
      | _ => false) && md.plain x
  | .callK n perm cs, x => (match x with
      | .Call (.Name nm _) es kws _ => ck.gl nm && (match ck.fns.find? fun s => decide (s.name = nm) && decide (s.idx = n) && (!s.q || ck.quiet) && ck.calm with
          | some s => decide (kws.map (·.arg) = (kws.filterMap (·.arg)).map some) && decide ((es.length, kws.filterMap (·.arg), perm) ∈ s.kbl) && decide (perm.mapM ((writeModes s.modes perm cs.length)[·]?) = some s.modes) &&
              chkMs ck (writeModes s.modes perm cs.length) cs (es ++ kws.map (·.value))
          | none => false)
      | _ => false) && md.plain x
  | .lc elt tg it cnd, x => (match x with
      | .ListComp y [⟨tge, ie, ifs, z⟩] scope _ => ck.calm && decide (z = 0) && notSet ie && chk ck (.i false) tge it ie && blkC ck.N ck.sc scope (ownOf ck tg.slots) && chkTg (ck.blk scope) tg tge && chkC (ck.blk scope) cnd ifs && chk (ck.blk scope) .e noE elt y
      | _ => false) && (md.plain x || md == .f)
  | .lc2 elt tg it cnd tg2 it2 cnd2, x => (match x with
      | .ListComp y [⟨tge, ie, ifs, z⟩, ⟨tge2, ie2, ifs2, z2⟩] scope _ => ck.calm && decide (z = 0) && decide (z2 = 0) && notSet ie && notSet ie2 && chk ck (.i false) tge it ie && blkC ck.N ck.sc scope (ownOf ck (tg.slots ++ tg2.slots)) && chkTg (ck.blk scope) tg tge && chkC (ck.blk scope) cnd ifs &&
          chk (ck.blk scope) (.i false) tge2 it2 ie2 && chkTg (ck.blk scope) tg2 tge2 && chkC (ck.blk scope) cnd2 ifs2 && chk (ck.blk scope) .e noE elt y
      | _ => false) && (md.plain x || md == .f)
  | .pop a, x => (match x with
      | .Call (.Attribute y nm ap) [] [] cp => decide (nm = "pop") && (ap.endLine == cp.line) && notCall y && chk ck .e noE a y
      | _ => false) && md.plain x
  | .enm a, x => (match x with
      | .Call (.Name nm _) [y] [] _ => decide (nm = "enumerate") && ck.blt nm && notStar y && isWalk md && isTupT te && chk ck (.w md.b) noE a y
      | _ => false)
  | .zip a b, x => (match x with
      | .Call (.Name nm _) [y, z] [] _ => decide (nm = "zip") && ck.blt nm && notStar y && notStar z && isWalk md && isTupT te && chk ck (.w md.b) noE a y && chk ck (.w md.b) noE b z
      | _ => false)
  | .attr _ _ _, _ => false
  | .new _ _ _, _ => false
  | .newM _ _ _, _ => false
  | .meth _ _ _, _ => false
  | .isObj _ _ _, _ => false
  | .heard i e, x => (match x with
      | .Call (.Name nm _) [.Lambda params body scope _] [] _ => ck.lam && ck.calm && ck.gl nm && ck.hears.any (fun s => decide (s.name = nm) && decide (s.idx = i)) && LamX.lamSB ck.sc scope && noParams params && chk (ck.lamc scope) .e noE e body
      | _ => false) && md.plain x
  | .act, _ => false
  | .exFld i cs f, x => (match x with
      | .Attribute (.Name n _) g _ => decide (g = f) && ck.held && ck.vis i n && decide ((cs, f) ∈ ck.xfs)
      | _ => false) && md.plain x
  | .exIs i cs no, x => (match x with
      | .Call (.Name nm _) [.Name n _, .Name T _] [] _ => decide (nm = "isinstance") && ck.held && ck.vis i n && ck.blt nm && ck.gl T && decide ((T, cs, no) ∈ ck.xns)
      | _ => false) && md.plain x
def chkEs (ck : Ck) : List E → List Expr → Bool
  | [], [] => true
  | c :: cs, x :: xs => notStar x && chk ck .e noE c x && chkEs ck cs xs
  | _, _ => false
def chkMs (ck : Ck) : List Bool → List E → List Expr → Bool
  | [], [], [] => true
  | b :: bs, c :: cs, x :: xs => notStar x && chk ck (if b then .v else .e) noE c x && chkMs ck bs cs xs
  | _, _, _ => false
def chkC (ck : Ck) : List E → List Expr → Bool
  | [], [] => true
  | [c], [x] => chk ck .t noE c x
  | _, _ => false
end
theorem chk_cst (ck : Ck) (md : Md) (te x : Expr) (d : D) : chk ck md te (.cst d) x = (cstOk ck d x && md.plain x) := rfl
theorem chk_var (ck : Ck) (md : Md) (te x : Expr) (n : Nat) : chk ck md te (.var n) x = (nameIs x (ck.vis n) && md.plain x) := rfl
theorem chk_view (ck : Ck) (md : Md) (te x : Expr) (n : Nat) : chk ck md te (.view n) x = (nameIs x (ck.vis n) && (match md with | .v => true | .w false => true | .i false => true | _ => false)) := rfl
theorem chk_peek (ck : Ck) (md : Md) (te x : Expr) (n : Nat) : chk ck md te (.peek n) x = (nameIs x (ck.vis n) && (match md with | .v => true | .w _ => true | .i _ => true | _ => false)) := rfl
theorem chk_tup (ck : Ck) (md : Md) (te x : Expr) (cs : List E) : chk ck md te (.tup cs) x = ((match x with
      | .Tuple es _ _ => decide (cs.length ≤ 1000) && chkEs ck cs es
      | _ => false) && md.plain x) := rfl
theorem chk_lst (ck : Ck) (md : Md) (te x : Expr) (cs : List E) : chk ck md te (.lst cs) x = ((match x with
      | .List es _ => decide (cs.length ≤ 1000) && chkEs ck cs es
      | _ => false) && (md.plain x || md == .f)) := rfl
theorem chk_cell (ck : Ck) (md : Md) (te x : Expr) (a : E) : chk ck md te (.cell a) x = (chk ck .f noE a x && md.plain x) := rfl
theorem chk_op1 (ck : Ck) (md : Md) (te x : Expr) (o : Op1) (a : E) : chk ck md te (.op1 o a) x = ((match o, x with
      | .neg, .UnaryOp .USub y _ => chk ck .v noE a y && md.plain x
      | .not, .UnaryOp .Not y _ => if md = .t then chk ck .t noE a y else (chk ck .v noE a y && md.plain x)
      | .rev, .Subscript y (.Slice none none (some (.UnaryOp .USub (.Constant (.int k) _ _) _)) _) _ => decide (k = 1) && chk ck .v noE a y && (md.plain x || md == .f)
      | .range, .Call (.Name nm _) [y] [] _ => decide (nm = "range") && ck.blt nm && notStar y && isWalk md && chk ck .v noE a y
      | .sset, .Call (.Name nm _) [.Call (.Name n2 _) [y] [] _] [] _ => decide (nm = "sorted") && decide (n2 = "set") && ck.calm && ck.blt nm && ck.blt n2 && notStar y && chk ck .v noE a y && md.plain x
      | o, .Call (.Name nm _) [y] [] _ => (match bltNm o with | some (z, _) => decide (nm = z) | none => false) && ck.calm && (decide (o ≠ .repr) || ck.quiet) && ck.blt nm && notStar y && chk ck .v noE a y && md.plain x
      | o, .Call (.Name nm _) [y, .Name ty _] [] _ => decide (nm = "isinstance") && decide (isaOf o = some ty) && ck.blt nm && ck.blt ty && notStar y && chk ck .v noE a y && md.plain x
      | _, _ => false)) := rfl
theorem chk_op2 (ck : Ck) (md : Md) (te x : Expr) (o : Op2) (a : E) (b : E) : chk ck md te (.op2 o a b) x = ((match x with
      | .BinOp y op z _ => decide (binOf op = some o) && chk ck .v noE a y && chk ck .v noE b z && md.plain x
      | .Compare y [op] [z] _ => decide (cmpOf op = some o) && !(behindInMarks op z) && chk ck .v noE a y && chk ck .v noE b z && (md == .t || md.plain x)
      | .Subscript y (.Slice (some z) none none _) _ => decide (o = .sfrom) && chk ck .v noE a y && chk ck .v noE b z && md.plain x
      | .Subscript y (.Slice none (some z) none _) _ => decide (o = .sto) && chk ck .v noE a y && chk ck .v noE b z && md.plain x
      | .Subscript y z _ => decide (o = .ix) && notSlice z && chk ck .v noE a y && chk ck .v noE b z && md.plain x
      | .Call (.Attribute y nm ap) [z] [] cp => decide (o = .join) && decide (nm = "join") && (ap.endLine == cp.line) && notCall y && notStar z && chk ck .v noE a y && chk ck .v noE b z && md.plain x
      | .Call (.Name nm _) [y, z] [] _ => ck.calm && ck.blt nm && notStar y && notStar z && chk ck .v noE a y && chk ck .v noE b z &&
          (match o with
            | .range => decide (nm = "range") && isWalk md
            | .max => decide (nm = "max") && md.plain x
            | .min => decide (nm = "min") && md.plain x
            | _ => false)
      | _ => false)) := rfl
theorem chk_op3 (ck : Ck) (md : Md) (te x : Expr) (o : Op3) (a : E) (b : E) (c : E) : chk ck md te (.op3 o a b c) x = ((match x with
      | .Subscript y (.Slice (some z) (some u) none _) _ => decide (o = .slice) && chk ck .v noE a y && chk ck .v noE b z && chk ck .v noE c u && md.plain x
      | .Call (.Name nm _) [y, z, u] [] _ => decide (o = .range) && decide (nm = "range") && ck.blt nm && notStar y && notStar z && notStar u && isWalk md && chk ck .v noE a y && chk ck .v noE b z && chk ck .v noE c u
      | _ => false)) := rfl
theorem chk_chain (ck : Ck) (md : Md) (te x : Expr) (o : Op2) (p : Op2) (a : E) (b : E) (c : E) : chk ck md te (.chain o p a b c) x = ((match x with
      | .Compare y [op, op'] [z, u] _ => decide (cmpOf op = some o) && decide (cmpOf op' = some p) && !(lastMarks [op, op'] [z, u]) && chk ck .v noE a y && chk ck .v noE b z && chk ck .v noE c u && (md == .e || md == .v || md == .t)
      | _ => false)) := rfl
theorem chk_and (ck : Ck) (md : Md) (te x : Expr) (a : E) (b : E) : chk ck md te (.and a b) x = ((match x with
      | .BoolOp .And [y, z] _ => (if md = .t then chk ck .t noE a y && chk ck .t noE b z else chk ck .e noE a y && chk ck .e noE b z && md.plain x)
      | .BoolOp .And (y :: z :: u :: r) p => (if md = .t then chk ck .t noE a y && chk ck .t noE b (.BoolOp .And (z :: u :: r) p) else chk ck .e noE a y && chk ck .e noE b (.BoolOp .And (z :: u :: r) p) && md.plain x)
      | _ => false)) := rfl
theorem chk_or (ck : Ck) (md : Md) (te x : Expr) (a : E) (b : E) : chk ck md te (.or a b) x = ((match x with
      | .BoolOp .Or [y, z] _ => (if md = .t then chk ck .t noE a y && chk ck .t noE b z else chk ck .e noE a y && chk ck .e noE b z && md.plain x)
      | .BoolOp .Or (y :: z :: u :: r) p => (if md = .t then chk ck .t noE a y && chk ck .t noE b (.BoolOp .Or (z :: u :: r) p) else chk ck .e noE a y && chk ck .e noE b (.BoolOp .Or (z :: u :: r) p) && md.plain x)
      | _ => false)) := rfl
theorem chk_ite (ck : Ck) (md : Md) (te x : Expr) (t : E) (a : E) (b : E) : chk ck md te (.ite t a b) x = ((match x with
      | .IfExp u y z _ => chk ck .t noE t u && chk ck .e noE a y && chk ck .e noE b z && md.plain x
      | _ => false)) := rfl
theorem chk_call (ck : Ck) (md : Md) (te x : Expr) (n : Nat) (cs : List E) : chk ck md te (.call n cs) x = ((match x with
      | .Call (.Name nm _) es [] _ => ck.gl nm && (match ck.fns.find? fun s => decide (s.name = nm) && decide (s.idx = n) && (!s.q || ck.quiet) && ck.calm with
          | some s => chkMs ck s.modes cs es
          | none => false)
      | _ => false) && md.plain x) := rfl
theorem chk_callK (ck : Ck) (md : Md) (te x : Expr) (n : Nat) (perm : List Nat) (cs : List E) : chk ck md te (.callK n perm cs) x = ((match x with
      | .Call (.Name nm _) es kws _ => ck.gl nm && (match ck.fns.find? fun s => decide (s.name = nm) && decide (s.idx = n) && (!s.q || ck.quiet) && ck.calm with
          | some s => decide (kws.map (·.arg) = (kws.filterMap (·.arg)).map some) && decide ((es.length, kws.filterMap (·.arg), perm) ∈ s.kbl) && decide (perm.mapM ((writeModes s.modes perm cs.length)[·]?) = some s.modes) &&
              chkMs ck (writeModes s.modes perm cs.length) cs (es ++ kws.map (·.value))
          | none => false)
      | _ => false) && md.plain x) := rfl
theorem chk_lc (ck : Ck) (md : Md) (te x : Expr) (elt : E) (tg : Tg) (it : E) (cnd : List E) : chk ck md te (.lc elt tg it cnd) x = ((match x with
      | .ListComp y [⟨tge, ie, ifs, z⟩] scope _ => ck.calm && decide (z = 0) && notSet ie && chk ck (.i false) tge it ie && blkC ck.N ck.sc scope (ownOf ck tg.slots) && chkTg (ck.blk scope) tg tge && chkC (ck.blk scope) cnd ifs && chk (ck.blk scope) .e noE elt y
      | _ => false) && (md.plain x || md == .f)) := rfl
theorem chk_lc2 (ck : Ck) (md : Md) (te x : Expr) (elt : E) (tg : Tg) (it : E) (cnd : List E) (tg2 : Tg) (it2 : E) (cnd2 : List E) : chk ck md te (.lc2 elt tg it cnd tg2 it2 cnd2) x = ((match x with
      | .ListComp y [⟨tge, ie, ifs, z⟩, ⟨tge2, ie2, ifs2, z2⟩] scope _ => ck.calm && decide (z = 0) && decide (z2 = 0) && notSet ie && notSet ie2 && chk ck (.i false) tge it ie && blkC ck.N ck.sc scope (ownOf ck (tg.slots ++ tg2.slots)) && chkTg (ck.blk scope) tg tge && chkC (ck.blk scope) cnd ifs &&
          chk (ck.blk scope) (.i false) tge2 it2 ie2 && chkTg (ck.blk scope) tg2 tge2 && chkC (ck.blk scope) cnd2 ifs2 && chk (ck.blk scope) .e noE elt y
      | _ => false) && (md.plain x || md == .f)) := rfl
theorem chk_pop (ck : Ck) (md : Md) (te x : Expr) (a : E) : chk ck md te (.pop a) x = ((match x with
      | .Call (.Attribute y nm ap) [] [] cp => decide (nm = "pop") && (ap.endLine == cp.line) && notCall y && chk ck .e noE a y
      | _ => false) && md.plain x) := rfl
theorem chk_enm (ck : Ck) (md : Md) (te x : Expr) (a : E) : chk ck md te (.enm a) x = ((match x with
      | .Call (.Name nm _) [y] [] _ => decide (nm = "enumerate") && ck.blt nm && notStar y && isWalk md && isTupT te && chk ck (.w md.b) noE a y
      | _ => false)) := rfl
theorem chk_zip (ck : Ck) (md : Md) (te x : Expr) (a : E) (b : E) : chk ck md te (.zip a b) x = ((match x with
      | .Call (.Name nm _) [y, z] [] _ => decide (nm = "zip") && ck.blt nm && notStar y && notStar z && isWalk md && isTupT te && chk ck (.w md.b) noE a y && chk ck (.w md.b) noE b z
      | _ => false)) := rfl
theorem chk_heard (ck : Ck) (md : Md) (te x : Expr) (i : Nat) (e : E) : chk ck md te (.heard i e) x = ((match x with
      | .Call (.Name nm _) [.Lambda params body scope _] [] _ => ck.lam && ck.calm && ck.gl nm && ck.hears.any (fun s => decide (s.name = nm) && decide (s.idx = i)) && LamX.lamSB ck.sc scope && noParams params && chk (ck.lamc scope) .e noE e body
      | _ => false) && md.plain x) := rfl
theorem chk_exFld (ck : Ck) (md : Md) (te x : Expr) (i : Nat) (cs : List Nat) (f : Str) : chk ck md te (.exFld i cs f) x = ((match x with
      | .Attribute (.Name n _) g _ => decide (g = f) && ck.held && ck.vis i n && decide ((cs, f) ∈ ck.xfs)
      | _ => false) && md.plain x) := rfl
theorem chk_exIs (ck : Ck) (md : Md) (te x : Expr) (i : Nat) (cs no : List Nat) : chk ck md te (.exIs i cs no) x = ((match x with
      | .Call (.Name nm _) [.Name n _, .Name T _] [] _ => decide (nm = "isinstance") && ck.held && ck.vis i n && ck.blt nm && ck.gl T && decide ((T, cs, no) ∈ ck.xns)
      | _ => false) && md.plain x) := rfl
theorem base_ok {o : Expr} {nm : Str} (h : notCall o = true) {env : PySem.Env} : attributeBase o nm env (eval o env) = eval o env := by
  cases o <;> first | rfl | cases h
end Ev
end

section
set_option Elab.async false
set_option linter.all false
set_option maxRecDepth 100000
namespace Ev
open PySem L2 PyProof.Rows
variable [TabList]
def Snd (Y : Yd) (X : Cx) (md : Md) (te x : Expr) (c : E) : Prop := match md with
  | .e => ∀ g : Gh, g.y = Y.y → PE X x (tE X.K Y g c)
  | .v => ∀ g : Gh, g.y = Y.y → PE X x (tV X.K Y g c)
  | .t => (∀ g : Gh, g.y = Y.y → PT X x (tT X.K Y g c)) ∧ ∀ op es p, x = .BoolOp op es p → ∀ g : Gh, g.y = Y.y → PW X x (tT X.K Y g c)
  | .f => ∀ g : Gh, g.y = Y.y → PE X x (tF X.K Y g c)
  | .i b => ∀ g : Gh, g.y = Y.y → PI X te x (tI X.K Y g b c)
  | .w b => ∀ g : Gh, g.y = Y.y → PE X x (tW X.K Y g b c)
section
variable {Y : Yd} {X : Cx} {ck : Ck} {md : Md} {te x : Expr} {c : E}
theorem snd_e (h : ∀ g : Gh, g.y = Y.y → PE X x (tE X.K Y g c)) (hp : md.plain x = true) : Snd Y X md te x c := by
  cases md with
  | e => exact h
  | v => exact fun g hg => peV (h g hg)
  | f => cases hp
  | i b => exact fun g hg => i_any (w_gen (h g hg))
  | w b => exact fun g hg => w_gen (h g hg)
  | t =>
    refine ⟨fun g hg => t_val (peV (h g hg)) (testPlain_ok hp _), fun op es p e => ?_⟩
    subst e
    cases hp
theorem snd_f (h : ∀ g : Gh, g.y = Y.y → PE X x (tF X.K Y g c)) (hl : ∀ env hp d hp', evE reprL Y.Γ c env hp = some (.ok d hp') → ownable d = true) (hp : (md.plain x || md == .f) = true) : Snd Y X md te x c := by
  by_cases e : md = .f
  · subst e
    exact h
  · refine snd_e (fun g hg => pe_of_f (h g hg) hl) ?_
    simpa [e] using hp
theorem okName_by {x : Str} (h1 : (x == ("__debug__" : Str)) = false) (h2 : (x == ("__classdict__" : Str)) = false) : okName x = true := by
  unfold okName
  rw [h1, h2]
  rfl
theorem nameIs_of {p : Str → Bool} (h : nameIs x p = true) : ∃ y q, x = .Name y q ∧ p y = true := by
  cases x <;> first | exact ⟨_, _, rfl, h⟩ | cases h
theorem cst_sound (G : Good Y X ck) {d : D} (h : cstOk ck d x = true) (g : Gh) : PE X x (tE X.K Y g (.cst d)) := by
  unfold cstOk at h
  split at h
  · obtain rfl := of_decide_eq_true h
    exact e_val pe_int fun _ _ _ => .int _
  · obtain rfl := of_decide_eq_true h
    exact e_val pe_bl fun _ _ _ => .bl _
  · obtain rfl := of_decide_eq_true h
    exact e_val pe_str fun _ _ _ => .str _
  · exact e_val pe_non fun _ _ _ => .non
  · simp only [Bool.and_eq_true, List.any_eq_true, decide_eq_true_eq] at h
    obtain ⟨h1, ⟨y, d⟩, hp, rfl, h2⟩ := h
    obtain ⟨h3, h4⟩ := G.gl h1
    obtain ⟨v, u, hm, r, hr⟩ := G.cons _ hp
    split at h2
    · obtain rfl := of_decide_eq_true h2
      rename_i e
      have e : d = _ := e
      subst e
      exact e_val (pe_glob h3 hm r h4) hr
    · cases h2
  · simp only [Bool.and_eq_true, List.any_eq_true, decide_eq_true_eq] at h
    obtain ⟨h1, ⟨y, d⟩, hp, rfl, h2⟩ := h
    obtain ⟨h3, h4⟩ := G.gl h1
    obtain ⟨v, u, hm, r, hr⟩ := G.cons _ hp
    split at h2
    · obtain rfl := sameInts_eq h2
      rename_i e
      have e : d = _ := e
      subst e
      exact e_val (pe_glob h3 hm r h4) hr
    · cases h2
  · cases h
theorem quiet_of {a b : Bool} (h : (!a || b) = true) (z : a = true) : b = true := by
  rw [z] at h
  exact h
theorem find_fact (G : Good Y X ck) {p : Sig → Bool} {s : Sig} (h : ck.fns.find? p = some s) : FnFact Y X ck.lv s ∧ p s = true := ⟨G.fns s (List.mem_of_find?_eq_some h), List.find?_some h⟩
/-- arguments, one by one -/
inductive AsOk (Y : Yd) (X : Cx) : List Bool → List E → List Expr → Prop
  | nil : AsOk Y X [] [] []
  | val {c x bs cs xs} : notStar x = true → (∀ g : Gh, g.y = Y.y → PE X x (tE X.K Y g c)) → AsOk Y X bs cs xs → AsOk Y X (false :: bs) (c :: cs) (x :: xs)
  | bor {c x bs cs xs} : notStar x = true → (∀ g : Gh, g.y = Y.y → PE X x (tV X.K Y g c)) → AsOk Y X bs cs xs → AsOk Y X (true :: bs) (c :: cs) (x :: xs)
theorem AsOk.pa {bs : List Bool} {cs : List E} {xs : List Expr} (h : AsOk Y X bs cs xs) (g : Gh) (hg : g.y = Y.y) : PA X xs (tMs X.K Y g bs cs) := by
  induction h with
  | nil => exact ms_nil
  | val h1 h2 _ ih => exact ms_val (h2 g hg) ih h1
  | bor h1 h2 _ ih => exact ms_bor (h2 g hg) ih h1
theorem AsOk.star {bs : List Bool} {cs : List E} {xs : List Expr} (h : AsOk Y X bs cs xs) : xs.all notStar = true ∧ cs.length = xs.length ∧ bs.length = xs.length := by
  induction h with
  | nil => exact ⟨rfl, rfl, rfl⟩
  | val h1 _ _ ih => exact ⟨by rw [List.all_cons, h1, ih.1]; rfl, congrArg (· + 1) ih.2.1, congrArg (· + 1) ih.2.2⟩
  | bor h1 _ _ ih => exact ⟨by rw [List.all_cons, h1, ih.1]; rfl, congrArg (· + 1) ih.2.1, congrArg (· + 1) ih.2.2⟩
theorem AsOk.split : ∀ {xs ys : List Expr} {bs : List Bool} {cs : List E}, AsOk Y X bs cs (xs ++ ys) → ∃ b1 b2 c1 c2, bs = b1 ++ b2 ∧ cs = c1 ++ c2 ∧ AsOk Y X b1 c1 xs ∧ AsOk Y X b2 c2 ys
  | [], ys, bs, cs, h => ⟨[], bs, [], cs, rfl, rfl, .nil, h⟩
  | x :: xs, ys, _, _, .val h1 h2 h => by
    obtain ⟨b1, b2, c1, c2, rfl, rfl, k1, k2⟩ := h.split
    exact ⟨false :: b1, b2, _ :: c1, c2, rfl, rfl, .val h1 h2 k1, k2⟩
  | x :: xs, ys, _, _, .bor h1 h2 h => by
    obtain ⟨b1, b2, c1, c2, rfl, rfl, k1, k2⟩ := h.split
    exact ⟨true :: b1, b2, _ :: c1, c2, rfl, rfl, .bor h1 h2 k1, k2⟩
theorem AsOk.pk (g : Gh) (hg : g.y = Y.y) : ∀ {kws : List Keyword} {bs : List Bool} {cs : List E}, AsOk Y X bs cs (kws.map (·.value)) → PK X kws (tMs X.K Y g bs cs)
  | [], _, _, .nil => mk_nil
  | ⟨nm, e, kp⟩ :: kws, _, _, .val _ h2 h => mk_val (h2 g hg) (h.pk g hg)
  | ⟨nm, e, kp⟩ :: kws, _, _, .bor _ h2 h => mk_bor (h2 g hg) (h.pk g hg)
theorem call_sound (G : Good Y X ck) {s : Sig} {nm : Str} {n : Nat} {cs : List E} {es : List Expr} {p pos : Pos} (hf : FnFact Y X ck.lv s) (h1 : s.name = nm) (h2 : s.idx = n) (hgl : ck.gl nm = true) (h : AsOk Y X s.modes cs es) (qu : s.q = true → ck.quiet = true) (hc : ck.calm = true) (g : Gh) (hg : g.y = Y.y) : PE X (.Call (.Name nm p) es [] pos) (tE X.K Y g (.call n cs)) := by
  subst h1 h2
  obtain ⟨k, f, fd, F, lv, hm, hk, hb, _⟩ := hf.ex
  have room := (G.room hc).mono lv
  obtain ⟨g1, g2⟩ := G.gl hgl
  have hp := h.pa g hg
  have hst := h.star.1
  cases es with
  | nil =>
    generalize hmo : s.modes = mo at h F
    cases h
    exact e_call0 G.tk F room (fun z => G.gu (qu z)) g1 hm hk hb g2
  | cons e es =>
    simp only [List.all_cons, Bool.and_eq_true] at hst
    exact e_call G.tk F room (fun z => G.gu (qu z)) g1 hm hk hb hp g2 hst.1 (star_all hst.2 _ _)
theorem callK_sound (G : Good Y X ck) {s : Sig} {nm : Str} {n : Nat} {perm : List Nat} {cs : List E} {es : List Expr} {kws : List Keyword} {bs : List Bool} {p pos : Pos} (hf : FnFact Y X ck.lv s) (h1 : s.name = nm) (h2 : s.idx = n) (hgl : ck.gl nm = true)
    (hk1 : kws.map (·.arg) = (kws.filterMap (·.arg)).map some) (hk2 : (es.length, kws.filterMap (·.arg), perm) ∈ s.kbl) (hk3 : perm.mapM (bs[·]?) = some s.modes) (h : AsOk Y X bs cs (es ++ kws.map (·.value))) (qu : s.q = true → ck.quiet = true) (hc : ck.calm = true) (g : Gh) (hg : g.y = Y.y) : PE X (.Call (.Name nm p) es kws pos) (tE X.K Y g (.callK n perm cs)) := by
  subst h1 h2
  obtain ⟨k, f, fd, F, lv, hm, hk, hb, hkb⟩ := hf.ex
  have room := (G.room hc).mono lv
  obtain ⟨g1, g2⟩ := G.gl hgl
  have KBs := hkb _ hk2
  obtain ⟨b1, b2, c1, c2, rfl, rfl, k1, k2⟩ := h.split
  obtain ⟨a1, a2, a3⟩ := kw_all hk1 pos X.env
  have l2 : c2.length = (kws.filterMap (·.arg)).length := by
    rw [k2.star.2.1, List.length_map]
    have := congrArg List.length hk1
    rw [List.length_map, List.length_map] at this
    exact this
  have hst := k1.star
  cases es with
  | nil =>
    cases k1
    exact e_callK0 G.tk F room (fun z => G.gu (qu z)) g1 hm hk KBs hk3 l2 (k2.pk g hg) a1 a2 g2 (by rw [a3]; rfl)
  | cons e es =>
    have hs1 := hst.1
    simp only [List.all_cons, Bool.and_eq_true] at hs1
    refine e_callK G.tk F room (fun z => G.gu (qu z)) g1 hm hk (by rw [hst.2.1]; exact KBs) hk3 l2 (k1.pa g hg) (k2.pk g hg) a1 a2 g2 hs1.1 ?_
    rw [a3, star_all hst.1]
    rfl
end
section
mutual
theorem chk_sound : ∀ (c : E) {Y : Yd} (ck : Ck) (md : Md) (te x : Expr) (X : Cx), Good Y X ck → chk ck md te c x = true → Snd Y X md te x c
  | .cst d, Y, ck, md, te, x, X, G, h => by
    rw [chk_cst, Bool.and_eq_true] at h
    exact snd_e (fun g hg => cst_sound G h.1 g) h.2
  | .var n, Y, ck, md, te, x, X, G, h => by
    rw [chk_var, Bool.and_eq_true] at h
    obtain ⟨y, q, rfl, hv⟩ := nameIs_of h.1
    obtain ⟨h1, h2, h3, h4⟩ := G.vis hv
    exact snd_e (fun g hg => e_var h1 h2 h3 h4) h.2
  | .view n, Y, ck, md, te, x, X, G, h => by
    rw [chk_view, Bool.and_eq_true] at h
    obtain ⟨y, q, rfl, hv⟩ := nameIs_of h.1
    obtain ⟨h1, h2, h3, h4⟩ := G.vis hv
    have h5 := h.2
    cases md with
    | v => exact fun g hg => e_view h1 h2 h3 h4
    | w b => cases b with
      | false => exact fun g hg => w_view h1 h2 h3 h4
      | true => cases h5
    | i b => cases b with
      | false => exact fun g hg => i_any (w_view h1 h2 h3 h4)
      | true => cases h5
    | _ => cases h5
  | .peek n, Y, ck, md, te, x, X, G, h => by
    rw [chk_peek, Bool.and_eq_true] at h
    obtain ⟨y, q, rfl, hv⟩ := nameIs_of h.1
    obtain ⟨h1, h2, h3, h4⟩ := G.vis hv
    have h5 := h.2
    cases md with
    | v => exact fun g hg => e_peek h1 h2 h3 h4
    | w b => exact fun g hg => w_peek h1 h2 h3 h4
    | i b => exact fun g hg => i_any (w_peek h1 h2 h3 h4)
    | _ => cases h5
  | .tup cs, Y, ck, md, te, x, X, G, h => by
    rw [chk_tup, Bool.and_eq_true] at h
    obtain ⟨h, hp⟩ := h
    split at h
    · simp only [andI, decI] at h
      obtain ⟨h1, h2⟩ := chkEs_sound cs ck _ X G h.2
      exact snd_e (fun g hg => e_tup (h1 g hg) (Nat.le_trans h.1 (by decide)) h2) hp
    · cases h
  | .lst cs, Y, ck, md, te, x, X, G, h => by
    rw [chk_lst, Bool.and_eq_true] at h
    obtain ⟨h, hp⟩ := h
    split at h
    · simp only [andI, decI] at h
      obtain ⟨h1, h2⟩ := chkEs_sound cs ck _ X G h.2
      exact snd_f (fun g hg => f_lst (h1 g hg) (Nat.le_trans h.1 (by decide))) lst_lst hp
    · cases h
  | .cell a, Y, ck, md, te, x, X, G, h => by
    rw [chk_cell, Bool.and_eq_true] at h
    exact snd_e (fun g hg => e_cell (chk_sound a ck .f noE x X G h.1 g hg)) h.2
  | .op1 o a, Y, ck, md, te, x, X, G, h => by
    rw [chk_op1] at h
    split at h
    · rw [Bool.and_eq_true] at h
      exact snd_e (fun g hg => e_neg (chk_sound a ck .v noE _ X G h.1 g hg)) h.2
    · split at h
      · rename_i e
        subst e
        exact ⟨fun g hg => t_not ((chk_sound a ck .t noE _ X G h).1 g hg), fun _ _ _ e => by cases e⟩
      · rw [Bool.and_eq_true] at h
        exact snd_e (fun g hg => e_not (chk_sound a ck .v noE _ X G h.1 g hg)) h.2
    · simp only [andI, decI] at h
      obtain ⟨⟨rfl, h1⟩, h2⟩ := h
      by_cases e : md = .f
      · subst e
        exact fun g hg => f_rev (chk_sound a ck .v noE _ X G h1 g hg)
      · exact snd_e (fun g hg => e_rev (chk_sound a ck .v noE _ X G h1 g hg)) (by simpa [e] using h2)
    · simp only [andI, decI] at h
      obtain ⟨⟨⟨⟨rfl, hb⟩, ns⟩, hw⟩, h1⟩ := h
      obtain ⟨b1, b2⟩ := G.isBlt hb
      cases md with
      | i b => exact fun g hg => i_range1 b1 b2 (chk_sound a ck .v noE _ X G h1 g hg) ns
      | _ => cases hw
    · simp only [andI, decI] at h
      obtain ⟨⟨⟨⟨⟨⟨⟨rfl, rfl⟩, hc⟩, hb⟩, hb2⟩, ns⟩, h1⟩, hp⟩ := h
      obtain ⟨b1, b2⟩ := G.isBlt hb
      obtain ⟨b3, b4⟩ := G.isBlt hb2
      exact snd_e (fun g hg => e_sset (G.calm hc) G.un b1 b2 b3 b4 (chk_sound a ck .v noE _ X G h1 g hg) ns) hp
    · simp only [andI] at h
      obtain ⟨⟨⟨⟨⟨⟨hn, hc⟩, hq⟩, hb⟩, ns⟩, h1⟩, hp⟩ := h
      have calm := G.calm hc
      obtain ⟨b1, b2⟩ := G.isBlt hb
      have ha := chk_sound a ck .v noE _ X G h1
      split at hn
      · rename_i z _ e
        obtain rfl := of_decide_eq_true hn
        cases o <;> simp only [bltNm, reduceCtorEq, Option.some.injEq, Prod.mk.injEq] at e <;> obtain ⟨rfl, _⟩ := e
        · exact snd_e (fun g hg => e_b1 rc_len b1 b2 PySem.boot_len (by decide) (by decide) (ha g hg) ns) hp
        · exact snd_e (fun g hg => e_t1 rc_tuple b1 b2 PyProof.Rows.boot_tuple (by decide) (by decide) (ha g hg) ns) hp
        · exact snd_e (fun g hg => e_t1 rc_list b1 b2 PyProof.Rows.boot_list (by decide) (by decide) (ha g hg) ns) hp
        · exact snd_e (fun g hg => e_b1 (rc_sorted G.un) b1 b2 (by decide +kernel) (by decide) (by decide) (ha g hg) ns) hp
        · exact snd_e (fun g hg => e_b1 (rc_sum calm) b1 b2 PyProof.Rows.boot_sum (by decide) (by decide) (ha g hg) ns) hp
        · exact snd_e (fun g hg => e_b1 (rc_any calm) b1 b2 (by decide +kernel) (by decide) (by decide) (ha g hg) ns) hp
        · exact snd_e (fun g hg => e_b1 (rc_all calm) b1 b2 (by decide +kernel) (by decide) (by decide) (ha g hg) ns) hp
        · exact snd_e (fun g hg => e_b1 rc_abs b1 b2 (by decide +kernel) (by decide) (by decide) (ha g hg) ns) hp
        · exact snd_e (fun g hg => e_t1 rc_int b1 b2 PyProof.Rows.boot_int (by decide) (by decide) (ha g hg) ns) hp
        · exact snd_e (fun g hg => e_b1 (rc_repr (G.gu (by simpa using hq)) G.un) b1 b2 (by decide +kernel) (by decide) (by decide) (ha g hg) ns) hp
      · cases hn
    · simp only [andI, decI] at h
      obtain ⟨⟨⟨⟨⟨⟨rfl, hi⟩, hb⟩, hb2⟩, ns⟩, h1⟩, hp⟩ := h
      obtain ⟨b1, b2⟩ := G.isBlt hb
      obtain ⟨b3, b4⟩ := G.isBlt hb2
      have ha := chk_sound a ck .v noE _ X G h1
      cases o <;> simp only [isaOf, reduceCtorEq, Option.some.injEq] at hi <;> subst hi
      · exact snd_e (fun g hg => e_isa (T := "tuple") (.inl ⟨rfl, rfl⟩) b1 b2 b3 b4 PyProof.Rows.boot_tuple (by decide) (by decide) (ha g hg) ns) hp
      · exact snd_e (fun g hg => e_isa (T := "int") (.inr (.inl ⟨rfl, rfl⟩)) b1 b2 b3 b4 PyProof.Rows.boot_int (by decide) (by decide) (ha g hg) ns) hp
      · exact snd_e (fun g hg => e_isa (T := "str") (.inr (.inr (.inl ⟨rfl, rfl⟩))) b1 b2 b3 b4 PyProof.Rows.boot_str (by decide) (by decide) (ha g hg) ns) hp
      · exact snd_e (fun g hg => e_isa (T := "bool") (.inr (.inr (.inr ⟨rfl, rfl⟩))) b1 b2 b3 b4 PyProof.Rows.boot_bool (by decide) (by decide) (ha g hg) ns) hp
    · cases h
  | .op2 o a b, Y, ck, md, te, x, X, G, h => by
    rw [chk_op2] at h
    split at h
    · simp only [andI, decI] at h
      obtain ⟨⟨⟨ho, h1⟩, h2⟩, hp⟩ := h
      exact snd_e (fun g hg => e_bin (bin_ok ho) (chk_sound a ck .v noE _ X G h1 g hg) (chk_sound b ck .v noE _ X G h2 g hg)) hp
    · simp only [Bool.and_eq_true, decide_eq_true_eq, Bool.not_eq_true'] at h
      obtain ⟨⟨⟨⟨ho, hm⟩, h1⟩, h2⟩, hp⟩ := h
      by_cases e : md = .t
      · subst e
        exact ⟨fun g hg => t_cmp (cmp_ok G.un ho) (chk_sound a ck .v noE _ X G h1 g hg) (chk_sound b ck .v noE _ X G h2 g hg) hm, fun _ _ _ e => by cases e⟩
      · exact snd_e (fun g hg => e_cmp (cmp_ok G.un ho) (chk_sound a ck .v noE _ X G h1 g hg) (chk_sound b ck .v noE _ X G h2 g hg) hm) (by simpa [e] using hp)
    · simp only [andI, decI] at h
      obtain ⟨⟨⟨rfl, h1⟩, h2⟩, hp⟩ := h
      exact snd_e (fun g hg => e_sfrom (chk_sound a ck .v noE _ X G h1 g hg) (chk_sound b ck .v noE _ X G h2 g hg)) hp
    · simp only [andI, decI] at h
      obtain ⟨⟨⟨rfl, h1⟩, h2⟩, hp⟩ := h
      exact snd_e (fun g hg => e_sto (chk_sound a ck .v noE _ X G h1 g hg) (chk_sound b ck .v noE _ X G h2 g hg)) hp
    · simp only [andI, decI] at h
      obtain ⟨⟨⟨⟨rfl, hs⟩, h1⟩, h2⟩, hp⟩ := h
      exact snd_e (fun g hg => e_ix (chk_sound a ck .v noE _ X G h1 g hg) (chk_sound b ck .v noE _ X G h2 g hg) (plainIx_of hs)) hp
    · simp only [andI, decI] at h
      obtain ⟨⟨⟨⟨⟨⟨⟨rfl, rfl⟩, hl⟩, hn⟩, ns⟩, h1⟩, h2⟩, hp⟩ := h
      exact snd_e (fun g hg => e_join (chk_sound a ck .v noE _ X G h1 g hg) (chk_sound b ck .v noE _ X G h2 g hg) (star_cons ns [] X.env) (base_ok hn) hl) hp
    · simp only [andI] at h
      obtain ⟨⟨⟨⟨⟨⟨hc, hb⟩, n1⟩, n2⟩, h1⟩, h2⟩, h3⟩ := h
      obtain ⟨b1, b2⟩ := G.isBlt hb
      have calm := G.calm hc
      have ha := chk_sound a ck .v noE _ X G h1
      have kb := chk_sound b ck .v noE _ X G h2
      split at h3
      · simp only [andI, decI] at h3
        obtain ⟨rfl, hw⟩ := h3
        cases md with
        | i b => exact fun g hg => i_range2 b1 b2 (ha g hg) (kb g hg) n1 n2
        | _ => cases hw
      · simp only [andI, decI] at h3
        obtain ⟨rfl, hp⟩ := h3
        exact snd_e (fun g hg => e_max2 calm b1 b2 (ha g hg) (kb g hg) n1 n2) hp
      · simp only [andI, decI] at h3
        obtain ⟨rfl, hp⟩ := h3
        exact snd_e (fun g hg => e_min2 calm b1 b2 (ha g hg) (kb g hg) n1 n2) hp
      · cases h3
    · cases h
  | .op3 o a b c, Y, ck, md, te, x, X, G, h => by
    rw [chk_op3] at h
    split at h
    · simp only [andI, decI] at h
      obtain ⟨⟨⟨⟨rfl, h1⟩, h2⟩, h3⟩, hp⟩ := h
      exact snd_e (fun g hg => e_slice (chk_sound a ck .v noE _ X G h1 g hg) (chk_sound b ck .v noE _ X G h2 g hg) (chk_sound c ck .v noE _ X G h3 g hg)) hp
    · simp only [andI, decI] at h
      obtain ⟨⟨⟨⟨⟨⟨⟨⟨⟨rfl, rfl⟩, hb⟩, n1⟩, n2⟩, n3⟩, hw⟩, h1⟩, h2⟩, h3⟩ := h
      obtain ⟨b1, b2⟩ := G.isBlt hb
      cases md with
      | i b' => exact fun g hg => i_range3 b1 b2 (chk_sound a ck .v noE _ X G h1 g hg) (chk_sound b ck .v noE _ X G h2 g hg) (chk_sound c ck .v noE _ X G h3 g hg) n1 n2 n3
      | _ => cases hw
    · cases h
  | .chain o p a b c, Y, ck, md, te, x, X, G, h => by
    rw [chk_chain] at h
    split at h
    · simp only [Bool.and_eq_true, decide_eq_true_eq, Bool.not_eq_true'] at h
      obtain ⟨⟨⟨⟨⟨⟨ho, ho'⟩, hm⟩, h1⟩, h2⟩, h3⟩, hp⟩ := h
      have key := fun (g : Gh) (hg : g.y = Y.y) => e_chain (pos := by assumption) (cmp_ok G.un ho) (cmp_ok G.un ho') (chk_sound a ck .v noE _ X G h1 g hg) (chk_sound b ck .v noE _ X G h2 g hg) (chk_sound c ck .v noE _ X G h3 g hg) hm
      cases md with
      | e => exact key
      | v => exact fun g hg => peV (key g hg)
      | t => exact ⟨fun g hg => t_chain (cmp_ok G.un ho) (cmp_ok G.un ho') (chk_sound a ck .v noE _ X G h1 g hg) (chk_sound b ck .v noE _ X G h2 g hg) (chk_sound c ck .v noE _ X G h3 g hg) hm, fun _ _ _ e => by cases e⟩
      | _ => cases hp
    · cases h
  | .and a b, Y, ck, md, te, x, X, G, h => by
    rw [chk_and] at h
    split at h
    · split at h
      · rename_i e
        subst e
        rw [Bool.and_eq_true] at h
        have hw := fun (g : Gh) (hg : g.y = Y.y) => w_and (pos := by assumption) ((chk_sound a ck .t noE _ X G h.1).1 g hg) (pw_and1 ((chk_sound b ck .t noE _ X G h.2).1 g hg))
        exact ⟨fun g hg => (hw g hg).pt, fun _ _ _ _ g hg => hw g hg⟩
      · simp only [andI] at h
        exact snd_e (fun g hg => e_and (chk_sound a ck .e noE _ X G h.1.1 g hg) (pe_one (chk_sound b ck .e noE _ X G h.1.2 g hg))) h.2
    · split at h
      · rename_i e
        subst e
        rw [Bool.and_eq_true] at h
        have hw := fun (g : Gh) (hg : g.y = Y.y) => w_and ((chk_sound a ck .t noE _ X G h.1).1 g hg) ((chk_sound b ck .t noE _ X G h.2).2 _ _ _ rfl g hg)
        exact ⟨fun g hg => (hw g hg).pt, fun _ _ _ _ g hg => hw g hg⟩
      · simp only [andI] at h
        exact snd_e (fun g hg => e_and (chk_sound a ck .e noE _ X G h.1.1 g hg) (chk_sound b ck .e noE _ X G h.1.2 g hg)) h.2
    · cases h
  | .or a b, Y, ck, md, te, x, X, G, h => by
    rw [chk_or] at h
    split at h
    · split at h
      · rename_i e
        subst e
        rw [Bool.and_eq_true] at h
        have hw := fun (g : Gh) (hg : g.y = Y.y) => w_or (pos := by assumption) ((chk_sound a ck .t noE _ X G h.1).1 g hg) (pw_or1 ((chk_sound b ck .t noE _ X G h.2).1 g hg))
        exact ⟨fun g hg => (hw g hg).pt, fun _ _ _ _ g hg => hw g hg⟩
      · simp only [andI] at h
        exact snd_e (fun g hg => e_or (chk_sound a ck .e noE _ X G h.1.1 g hg) (pe_one (chk_sound b ck .e noE _ X G h.1.2 g hg))) h.2
    · split at h
      · rename_i e
        subst e
        rw [Bool.and_eq_true] at h
        have hw := fun (g : Gh) (hg : g.y = Y.y) => w_or ((chk_sound a ck .t noE _ X G h.1).1 g hg) ((chk_sound b ck .t noE _ X G h.2).2 _ _ _ rfl g hg)
        exact ⟨fun g hg => (hw g hg).pt, fun _ _ _ _ g hg => hw g hg⟩
      · simp only [andI] at h
        exact snd_e (fun g hg => e_or (chk_sound a ck .e noE _ X G h.1.1 g hg) (chk_sound b ck .e noE _ X G h.1.2 g hg)) h.2
    · cases h
  | .ite t a b, Y, ck, md, te, x, X, G, h => by
    rw [chk_ite] at h
    split at h
    · simp only [andI] at h
      exact snd_e (fun g hg => e_ite ((chk_sound t ck .t noE _ X G h.1.1.1).1 g hg) (chk_sound a ck .e noE _ X G h.1.1.2 g hg) (chk_sound b ck .e noE _ X G h.1.2 g hg)) h.2
    · cases h
  | .call n cs, Y, ck, md, te, x, X, G, h => by
    rw [chk_call, Bool.and_eq_true] at h
    obtain ⟨h, hp⟩ := h
    split at h
    · rw [Bool.and_eq_true] at h
      obtain ⟨hg, h⟩ := h
      split at h
      · rename_i s hf
        obtain ⟨ff, hq⟩ := find_fact G hf
        simp only [andI, decI] at hq
        exact snd_e (fun g hy => call_sound G ff hq.1.1.1 hq.1.1.2 hg (chkMs_sound cs ck _ _ X G h) (quiet_of hq.1.2) hq.2 g hy) hp
      · cases h
    · cases h
  | .callK n perm cs, Y, ck, md, te, x, X, G, h => by
    rw [chk_callK, Bool.and_eq_true] at h
    obtain ⟨h, hp⟩ := h
    split at h
    · rw [Bool.and_eq_true] at h
      obtain ⟨hg, h⟩ := h
      split at h
      · rename_i s hf
        obtain ⟨ff, hq⟩ := find_fact G hf
        simp only [andI, decI] at hq h
        exact snd_e (fun g hy => callK_sound G ff hq.1.1.1 hq.1.1.2 hg h.1.1.1 h.1.1.2 h.1.2 (chkMs_sound cs ck _ _ X G h.2) (quiet_of hq.1.2) hq.2 g hy) hp
      · cases h
    · cases h
  | .lc elt tg it cnd, Y, ck, md, te, x, X, G, h => by
    rw [chk_lc, Bool.and_eq_true] at h
    obtain ⟨h, hp⟩ := h
    split at h
    · simp only [andI, decI] at h
      obtain ⟨⟨⟨⟨⟨⟨⟨hc, rfl⟩, hs⟩, h1⟩, h2⟩, h3⟩, h4⟩, h5⟩ := h
      refine snd_f (fun g hg => f_lc hg (G.calm hc) G.nd (chk_sound it ck (.i false) _ _ X G h1 g hg) (by rw [G.N, G.sc]; exact blkOk_by h2) ownOf_snd (fun s H C cl fp => tg_sound (G.blk s H _ cl C fp) h3) (fun s H C cl fp => chkC_sound cnd _ _ _ (G.blk s H _ cl C fp) h4)
        (fun s H C cl fp => eg fun g hg => chk_sound elt _ .e noE _ _ (G.blk s H _ cl C fp) h5 g hg) (notSet_ok hs _)) lc_lst hp
    · cases h
  | .lc2 elt tg it cnd tg2 it2 cnd2, Y, ck, md, te, x, X, G, h => by
    rw [chk_lc2, Bool.and_eq_true] at h
    obtain ⟨h, hp⟩ := h
    split at h
    · simp only [andI, decI] at h
      obtain ⟨⟨⟨⟨⟨⟨⟨⟨⟨⟨⟨⟨hc, rfl⟩, rfl⟩, hs⟩, hs2⟩, h1⟩, h2⟩, h3⟩, h4⟩, h5⟩, h6⟩, h7⟩, h8⟩ := h
      refine snd_f (fun g hg => peWeak (pe_lc2 (G.calm hc) G.nd (chk_sound it ck (.i false) _ _ X G h1 g hg) (own := ownOf ck (tg.slots ++ tg2.slots)) (vs1 := tg2.slots) (by rw [G.N, G.sc]; exact blkOk_by h2) (fun i hi => by rw [ownOf_snd]; exact List.mem_append_right _ hi)
        (fun s H C cl fp => tg_sound (G.blk s H _ cl C fp) h3) (fun s H C cl fp => chkC_sound cnd _ _ _ (G.blk s H _ cl C fp) h4)
        (fun s H C cl fp => ig fun g hg => chk_sound it2 _ (.i false) _ _ _ (G.blk s H _ cl C fp) h5 g hg) (fun s H C cl fp => tg_sound (G.blk s H _ cl C fp) h6) (fun s H C cl fp => chkC_sound cnd2 _ _ _ (G.blk s H _ cl C fp) h7)
        (fun s H C cl fp => eg fun g hg => chk_sound elt _ .e noE _ _ (G.blk s H _ cl C fp) h8 g hg) (notSet_ok hs _) (fun env => notSet_ok hs2 env)) fun σ H Q q => by rw [ownOf_snd]; exact lc2_reads hg q) lc2_lst hp
    · cases h
  | .pop a, Y, ck, md, te, x, X, G, h => by
    rw [chk_pop, Bool.and_eq_true] at h
    obtain ⟨h, hp⟩ := h
    split at h
    · simp only [andI, decI] at h
      obtain ⟨⟨⟨rfl, hl⟩, hc⟩, h1⟩ := h
      refine snd_e (fun g hg => e_pop (chk_sound a ck .e noE _ X G h1 g hg) ?_ hl) hp
      rename_i y _ _
      cases y <;> first | rfl | cases hc
    · cases h
  | .enm a, Y, ck, md, te, x, X, G, h => by
    rw [chk_enm] at h
    split at h
    · simp only [andI, decI] at h
      obtain ⟨⟨⟨⟨⟨rfl, hb⟩, ns⟩, hw⟩, ht⟩, h1⟩ := h
      obtain ⟨b1, b2⟩ := G.isBlt hb
      cases md with
      | i b =>
        cases te <;> first | cases ht | skip
        exact fun g hg => i_enum b1 b2 (chk_sound a ck (.w b) noE _ X G h1 g hg) ns
      | _ => cases hw
    · cases h
  | .zip a b, Y, ck, md, te, x, X, G, h => by
    rw [chk_zip] at h
    split at h
    · simp only [andI, decI] at h
      obtain ⟨⟨⟨⟨⟨⟨⟨rfl, hb⟩, n1⟩, n2⟩, hw⟩, ht⟩, h1⟩, h2⟩ := h
      obtain ⟨b1, b2⟩ := G.isBlt hb
      cases md with
      | i b' =>
        cases te <;> first | cases ht | skip
        exact fun g hg => i_zip b1 b2 (chk_sound a ck (.w b') noE _ X G h1 g hg) (chk_sound b ck (.w b') noE _ X G h2 g hg) n1 n2
      | _ => cases hw
    · cases h
  | .attr _ _ _, Y, ck, md, te, x, X, G, h => by cases h
  | .new _ _ _, Y, ck, md, te, x, X, G, h => by cases h
  | .newM _ _ _, Y, ck, md, te, x, X, G, h => by cases h
  | .meth _ _ _, Y, ck, md, te, x, X, G, h => by cases h
  | .isObj _ _ _, Y, ck, md, te, x, X, G, h => by cases h
  | .heard i e, Y, ck, md, te, x, X, G, h => by
    rw [chk_heard, Bool.and_eq_true] at h
    obtain ⟨h, hp⟩ := h
    split at h
    · simp only [andI, decI, List.any_eq_true] at h
      obtain ⟨⟨⟨⟨⟨⟨hl, hc⟩, hg⟩, s, hs, h1, h2⟩, hS⟩, np⟩, he⟩ := h
      obtain ⟨g1, g2⟩ := G.gl hg
      obtain ⟨LH, room⟩ := G.lam hl
      exact snd_e (fun g hy => e_heard (G.hears s hs) LH h1 h2 g1 g2 room (by rw [G.sc]; exact hS) np fun A outer s H W f c' inside => chk_sound e (ck.lamc _) .e noE _ _ (G.lamc inside) he g hy) hp
    · cases h
  | .act, Y, ck, md, te, x, X, G, h => by cases h
  | .exFld i cs f, Y, ck, md, te, x, X, G, h => by
    rw [chk_exFld, Bool.and_eq_true] at h
    obtain ⟨h, hp⟩ := h
    split at h
    · simp only [andI, decI] at h
      obtain ⟨⟨⟨rfl, hd⟩, hv⟩, hx⟩ := h
      obtain ⟨h1, h2, h3, h4⟩ := G.vis hv
      exact snd_e (fun g hg => e_exFld (G.held hd) hg h1 h2 (okName_by h3 h4) (G.xfs _ hx)) hp
    · cases h
  | .exIs i cs no, Y, ck, md, te, x, X, G, h => by
    rw [chk_exIs, Bool.and_eq_true] at h
    obtain ⟨h, hp⟩ := h
    split at h
    · simp only [andI, decI] at h
      obtain ⟨⟨⟨⟨⟨rfl, hd⟩, hv⟩, hb⟩, hT⟩, hx⟩ := h
      obtain ⟨h1, h2, h3, h4⟩ := G.vis hv
      obtain ⟨b1, b2⟩ := G.isBlt hb
      obtain ⟨g1, g2⟩ := G.gl hT
      exact snd_e (fun g hg => e_exIs (G.held hd) hg h1 h2 (okName_by h3 h4) b1 b2 g1 g2 (G.xns _ hx)) hp
    · cases h
theorem chkEs_sound : ∀ (cs : List E) {Y : Yd} (ck : Ck) (xs : List Expr) (X : Cx), Good Y X ck → chkEs ck cs xs = true → (∀ g : Gh, g.y = Y.y → PA X xs (tEs X.K Y g cs)) ∧ xs.length = cs.length
  | [], Y, ck, [], X, G, h => ⟨fun g hg => es_nil, rfl⟩
  | [], Y, ck, _ :: _, X, G, h => by simp [chkEs] at h
  | _ :: _, Y, ck, [], X, G, h => by simp [chkEs] at h
  | c :: cs, Y, ck, x :: xs, X, G, h => by
    rw [chkEs] at h
    simp only [andI] at h
    obtain ⟨h1, h2⟩ := chkEs_sound cs ck xs X G h.2
    exact ⟨fun g hg => es_cons (chk_sound c ck .e noE x X G h.1.2 g hg) (h1 g hg) h.1.1, congrArg (· + 1) h2⟩
theorem chkMs_sound : ∀ (cs : List E) {Y : Yd} (ck : Ck) (bs : List Bool) (xs : List Expr) (X : Cx), Good Y X ck → chkMs ck bs cs xs = true → AsOk Y X bs cs xs
  | [], Y, ck, [], [], X, G, h => .nil
  | [], Y, ck, _ :: _, _, X, G, h => by simp [chkMs] at h
  | [], Y, ck, [], _ :: _, X, G, h => by simp [chkMs] at h
  | _ :: _, Y, ck, [], _, X, G, h => by simp [chkMs] at h
  | _ :: _, Y, ck, _ :: _, [], X, G, h => by simp [chkMs] at h
  | c :: cs, Y, ck, b :: bs, x :: xs, X, G, h => by
    rw [chkMs] at h
    simp only [andI] at h
    have h1 := chkMs_sound cs ck bs xs X G h.2
    cases b with
    | false => exact .val h.1.1 (chk_sound c ck .e noE x X G h.1.2) h1
    | true => exact .bor h.1.1 (chk_sound c ck .v noE x X G h.1.2) h1
theorem chkC_sound : ∀ (cs : List E) {Y : Yd} (ck : Ck) (xs : List Expr) (X : Cx), Good Y X ck → chkC ck cs xs = true → PTs X xs (tCg X.K Y cs)
  | [], Y, ck, [], X, G, h => c_nil
  | [], Y, ck, _ :: _, X, G, h => by simp [chkC] at h
  | [c], Y, ck, [x], X, G, h => by
    rw [chkC] at h
    exact c_one (chk_sound c ck .t noE x X G h).1
  | [_], Y, ck, [], X, G, h => by simp [chkC] at h
  | [_], Y, ck, _ :: _ :: _, X, G, h => by simp [chkC] at h
  | _ :: _ :: _, Y, ck, [], X, G, h => by simp [chkC] at h
  | _ :: _ :: _, Y, ck, _ :: _, X, G, h => by simp [chkC] at h
end
end
end Ev
end

section
set_option Elab.async false
set_option linter.all false
set_option maxRecDepth 100000
namespace Ev
open PySem L2 PyProof.Rows
variable [TabList]
section
variable {Y : Yd} {X : Cx}
/-! ### a comprehension stored under a name -/
theorem set_lc {i : Nat} {y : Str} {py : Pos} {elt tg iter : Expr} {ifs : List Expr} {scope : Scope} {own : List (Str × Nat)} {pos spos : Pos} {c it : E} {cnd : List E} {t : Tg} (hc : X.calm = true) (hN : X.N.Nodup) (hy : X.N[i]? = some y) (hyl : X.env.scope.names.lookup y = some .local)
    (hsw : swapsWith (.ListComp elt [⟨tg, iter, ifs, 0⟩] scope pos) (some (.Name y py)) spos.line X.env = pure true) (hi : ∀ g : Gh, g.y = Y.y → PI X tg iter (tI X.K Y g false it)) (ok : BlkOk X.N X.env.scope scope own) (ho : own.map (·.2) = t.slots)
    (hg : ∀ (s : Shared) (H : Hp) (C : Addr) (cl : List (Str × Addr)) (fp : List Addr), PG (X.blk s H scope (compEnvC scope cl C X.env) fp) tg (gT X.K t))
    (ht : ∀ (s : Shared) (H : Hp) (C : Addr) (cl : List (Str × Addr)) (fp : List Addr), PTs (X.blk s H scope (compEnvC scope cl C X.env) fp) ifs (tCg X.K Y.calm cnd))
    (he : ∀ (s : Shared) (H : Hp) (C : Addr) (cl : List (Str × Addr)) (fp : List Addr), PE (X.blk s H scope (compEnvC scope cl C X.env) fp) elt (tEg X.K Y.calm c)) (hs : ∀ x, foldedSetIterable iter X.env x = pure x) {B : S}
    (hB : ∀ (D : Ends) σ H, tS X.K Y B D σ H → tFg X.K Y (.lc c t it cnd) σ H fun v H1 => D.nx (σ.set i (some v)) H1) :
    PS X (.Assign [.Name y py] (.ListComp elt [⟨tg, iter, ifs, 0⟩] scope pos) spos) (tS X.K Y B) :=
  psWeak (ps_setLc hc hN hy hyl hsw (ig hi) ok hg ht he hs) fun D σ H q => by
    obtain ⟨g, hg, q⟩ := hB D σ H q
    rw [ho]
    exact ⟨g, hg, lc_reads hg q⟩
theorem set_lc2 {i : Nat} {y : Str} {py : Pos} {elt tg iter tg1 iter1 : Expr} {ifs ifs1 : List Expr} {scope : Scope} {own : List (Str × Nat)} {pos spos : Pos} {c it it2 : E} {cnd cnd2 : List E} {t t2 : Tg} (hc : X.calm = true) (hN : X.N.Nodup) (hy : X.N[i]? = some y) (hyl : X.env.scope.names.lookup y = some .local)
    (hsw : swapsWith (.ListComp elt [⟨tg, iter, ifs, 0⟩, ⟨tg1, iter1, ifs1, 0⟩] scope pos) (some (.Name y py)) spos.line X.env = pure true) (hi : ∀ g : Gh, g.y = Y.y → PI X tg iter (tI X.K Y g false it)) (ok : BlkOk X.N X.env.scope scope own) (ho : own.map (·.2) = t.slots ++ t2.slots)
    (hg : ∀ (s : Shared) (H : Hp) (C : Addr) (cl : List (Str × Addr)) (fp : List Addr), PG (X.blk s H scope (compEnvC scope cl C X.env) fp) tg (gT X.K t))
    (ht : ∀ (s : Shared) (H : Hp) (C : Addr) (cl : List (Str × Addr)) (fp : List Addr), PTs (X.blk s H scope (compEnvC scope cl C X.env) fp) ifs (tCg X.K Y.calm cnd))
    (hi1 : ∀ (s : Shared) (H : Hp) (C : Addr) (cl : List (Str × Addr)) (fp : List Addr), PI (X.blk s H scope (compEnvC scope cl C X.env) fp) tg1 iter1 (tIg X.K Y.calm false it2))
    (hg1 : ∀ (s : Shared) (H : Hp) (C : Addr) (cl : List (Str × Addr)) (fp : List Addr), PG (X.blk s H scope (compEnvC scope cl C X.env) fp) tg1 (gT X.K t2))
    (ht1 : ∀ (s : Shared) (H : Hp) (C : Addr) (cl : List (Str × Addr)) (fp : List Addr), PTs (X.blk s H scope (compEnvC scope cl C X.env) fp) ifs1 (tCg X.K Y.calm cnd2))
    (he : ∀ (s : Shared) (H : Hp) (C : Addr) (cl : List (Str × Addr)) (fp : List Addr), PE (X.blk s H scope (compEnvC scope cl C X.env) fp) elt (tEg X.K Y.calm c)) (hs : ∀ x, foldedSetIterable iter X.env x = pure x) (hs1 : ∀ env x, foldedSetIterable iter1 env x = pure x) {B : S}
    (hB : ∀ (D : Ends) σ H, tS X.K Y B D σ H → tFg X.K Y (.lc2 c t it cnd t2 it2 cnd2) σ H fun v H1 => D.nx (σ.set i (some v)) H1) :
    PS X (.Assign [.Name y py] (.ListComp elt [⟨tg, iter, ifs, 0⟩, ⟨tg1, iter1, ifs1, 0⟩] scope pos) spos) (tS X.K Y B) :=
  psWeak (ps_setLc2 hc hN hy hyl hsw (ig hi) ok (vs1 := t2.slots) (fun i hi => by rw [ho]; exact List.mem_append_right _ hi) hg ht hi1 hg1 ht1 he hs hs1) fun D σ H q => by
    obtain ⟨g, hg, q⟩ := hB D σ H q
    rw [ho]
    exact ⟨g, hg, lc2_reads hg q⟩
theorem asg_fresh {i : Nat} {c : E} (hl : ∀ env hp d hp', evE reprL Y.Γ c env hp = some (.ok d hp') → ownable d = true) (B : Ends) (σ : L2.St) (H : Hp) (q : tS X.K Y (.asg (.name i) c) B σ H) : tFg X.K Y c σ H fun v H1 => B.nx (σ.set i (some v)) H1 := by
  obtain ⟨g, hg, q⟩ := set_reads q
  exact ⟨g, hg, f_of hl q⟩
/-! ### x op= e -/
def augOf : Operator → Option Op2
  | .Add => some .add
  | .Mult => some .mul
  | _ => none
theorem aug_ok {op : Operator} {o : Op2} (h : augOf op = some o) : PIp X op fun x y H Q => ∃ (Fb : Addr → Prop) (m : List Addr) (d d' r : D), Rep X.K Fb m H x d ∧ Rep X.K Fb m H y d' ∧ augOp o d d' = some r ∧ ∀ v, (∀ Fb m H, Rep X.K Fb m H v r) → Q v H := by
  rintro pins s σ H x y v u Q I rx ry ⟨Fb, m, d, d', r, hx, hy, ho, q⟩
  cases op <;> simp only [augOf, reduceCtorEq, Option.some.injEq] at h <;> subst h
  · cases d <;> cases d' <;> simp only [augOp, reduceCtorEq, Option.some.injEq, Option.ite_none_right_eq_some] at ho
    · subst ho
      cases hx
      cases hy
      exact iop_add pins s σ H _ _ v u Q I rx ry ⟨_, _, rfl, rfl, q _ fun _ _ _ => .int _⟩
    · obtain ⟨hl, rfl⟩ := ho
      cases hx
      cases hy
      obtain ⟨t, rfl⟩ := rx
      obtain ⟨t', rfl⟩ := ry
      exact PyProof.Rows.iadd_str (fun t' tk => ⟨.str _, H, I.tok _, ⟨_, rfl⟩, q _ fun _ _ _ => .str _⟩) (by rw [← LIM_eq]; exact hl)
  · cases d <;> cases d' <;> simp only [augOp, reduceCtorEq, Option.some.injEq, Option.ite_none_right_eq_some] at ho
    obtain ⟨hl, rfl⟩ := ho
    cases hx
    cases hy
    obtain ⟨t, rfl⟩ := rx
    obtain ⟨t', rfl⟩ := ry
    exact PyProof.Rows.imul_int ⟨.int _, H, I.tok _, ⟨_, rfl⟩, q _ fun _ _ _ => .int _⟩ (mulOk_ok hl)
end
end Ev
end

section
set_option Elab.async false
set_option linter.all false
set_option maxRecDepth 100000
namespace Ev
open PySem L2 PyProof.Rows
variable [TabList]
/-! ### the checker of statements -/
def isFun (sc : Scope) : Bool := match sc.kind with
  | .function => true
  | _ => false
/-- what is stored under a name: true, if a comprehension's store is exchanged -/
def swB (sc : Scope) (x : Str) (p : Pos) : Expr → Bool
  | .ListComp _ _ s q => sc.names.lookup x == some .local && p.line == q.line && !(s.names.any fun (n, k) => n == x && (k == .local || k == .cell))
  | _ => false
def okVal : Expr → Bool
  | .SetComp .. | .DictComp .. => false
  | _ => true
theorem swB_ok {sc : Scope} {x : Str} {p : Pos} {v : Expr} {l : Nat} {env : PySem.Env} (hs : env.scope = sc) (hf : isFun sc = true) (hv : okVal v = true) : swapsWith v (some (.Name x p)) l env = pure (swB sc x p v) := by
  have hk : env.scope.kind = .function := by
    rw [hs]
    unfold isFun at hf
    split at hf
    · assumption
    · cases hf
  have hb : env.blockKind = .function := by
    unfold PySem.Env.blockKind
    rw [hk]
    rfl
  have hx : env.kindOf x = sc.names.lookup x := by
    unfold PySem.Env.kindOf
    rw [hs]
  cases v <;> first | rfl | cases hv | skip
  rename_i elt gs s q
  unfold swapsWith
  simp only [hb, hx, Expr.pos, swB]
  show pure _ = pure _
  congr 1
def isTuple : Expr → Bool
  | .Tuple .. | .List .. => true
  | _ => false
theorem swSole_ok {t v : Expr} {l : Nat} {env : PySem.Env} (h : notComp v = true) : swapsWithSole [t] v l env = pure false := notComp_ok h (some t) l env
theorem noSwap_t {t v : Expr} {env : PySem.Env} (h : isTuple t = false) : swappedStores [t] v env = pure none := by
  cases t <;> first | rfl | cases h
theorem noSwap_v {t v : Expr} {env : PySem.Env} (h : isTuple v = false) : swappedStores [t] v env = pure none := by
  cases v <;> first | (cases t <;> rfl) | cases h
/-- the stores are not exchanged: of a length of four or more, or constants alone -/
def cellPar (sc : Scope) (es : List Expr) : Bool := es.any fun e => match e with
  | .Name x _ => !decide (sc.names.lookup x = some .local)
  | .Tuple .. => true
  | _ => false
def flatPar (sc : Scope) (es vs : List Expr) : Bool := decide (4 ≤ es.length) || vs.all (foldedForSure 8) || cellPar sc es
theorem fm_lt {α β : Type} {F : α → Option β} : ∀ {l : List α}, (∃ x ∈ l, F x = none) → (l.filterMap F).length < l.length
  | [], ⟨x, hx, _⟩ => by cases hx
  | y :: l, ⟨x, hx, h⟩ => by
    rw [List.filterMap_cons]
    rcases List.mem_cons.mp hx with z | z
    · rw [← z, h]
      exact Nat.lt_succ_of_le (List.length_filterMap_le F l)
    · have := fm_lt ⟨x, z, h⟩
      cases F y with
      | none => exact Nat.lt_succ_of_lt this
      | some b => exact Nat.succ_lt_succ this
theorem noSwap_par {es vs : List Expr} {k k2 : Nat} {p p2 : Pos} {env : PySem.Env} {sc : Scope} (hsc : env.scope = sc) (h : flatPar sc es vs = true) : swappedStores [.Tuple es k p] (.Tuple vs k2 p2) env = pure none := by
  unfold swappedStores
  simp only
  split
  · rfl
  · rename_i h1
    split
    · rfl
    · split
      · rfl
      · rename_i hnm
        unfold flatPar at h
        rw [Bool.or_eq_true, Bool.or_eq_true, decide_eq_true_eq] at h
        rcases h with (h | h) | h
        · exfalso
          simp only [Bool.or_eq_true, Bool.not_eq_true', Bool.or_eq_false_iff, not_or, beq_eq_false_iff_ne, bne_iff_ne, ne_eq] at h1
          have := h1.1.1
          simp at this
          omega
        · rw [if_pos h]
        · exfalso
          refine hnm ?_
          rw [Bool.or_eq_true]
          refine .inl ?_
          rw [bne_iff_ne]
          refine Nat.ne_of_lt (fm_lt ?_)
          obtain ⟨e, he, hc⟩ := List.any_eq_true.mp h
          refine ⟨e, he, ?_⟩
          cases e with
          | Name x q =>
            have hc : (!decide (sc.names.lookup x = some .local)) = true := hc
            have hk : (env.kindOf x == some NameKind.local) = false := by
              unfold PySem.Env.kindOf
              rw [hsc]
              rw [Bool.not_eq_true', decide_eq_false_iff_not] at hc
              exact beq_eq_false_iff_ne.mpr hc
            simp only [hk, Bool.false_and, Bool.false_eq_true, if_false]
          | Tuple _ _ _ => rfl
          | _ => cases hc
def parNames (sc : Scope) (l : Nat) : List Expr → Bool
  | [] => true
  | .Name x p :: es => decide (sc.names.lookup x = some .local) && decide (p.line = l) && parNames sc l es
  | _ :: _ => false
def nameOf : Expr → Option Str
  | .Name x _ => some x
  | _ => none
/-- the stores are exchanged -/
def swapPar (sc : Scope) (es vs : List Expr) : Bool := isFun sc && (decide (es.length = 2) || decide (es.length = 3)) && decide (vs.length = es.length) && vs.all notStar && parNames sc ((es.head?.map (·.pos.line)).getD 0) es && decide ((es.filterMap nameOf).Nodup) && !(vs.all (foldedForSure 8)) && !(vs.all (constantsAlone 8))
theorem eraseDups_nodup : ∀ {l : List Str}, l.Nodup → l.eraseDups = l
  | [], _ => rfl
  | x :: l, h => by
    rw [List.eraseDups_cons]
    rw [List.nodup_cons] at h
    have : l.filter (fun b => !b == x) = l := List.filter_eq_self.mpr fun y hy => by
      have : y ≠ x := fun e => h.1 (e ▸ hy)
      simpa using this
    rw [this, eraseDups_nodup h.2]
theorem parNames_fm {sc : Scope} {l : Nat} {env : PySem.Env} (hs : env.scope = sc) (F : Expr → Option Str) (hF : ∀ x p, F (.Name x p) = if (env.kindOf x == some .local && p.line == l) = true then some x else none) : ∀ {es : List Expr}, parNames sc l es = true →
    es.filterMap F = es.filterMap nameOf ∧ (es.filterMap nameOf).length = es.length
  | [], _ => ⟨rfl, rfl⟩
  | e :: es, h => by
    cases e <;> simp only [parNames, reduceCtorEq] at h
    rename_i x p
    simp only [andI, decI] at h
    obtain ⟨⟨h1, h2⟩, h3⟩ := h
    obtain ⟨a1, a2⟩ := parNames_fm hs F hF h3
    have hx : env.kindOf x = some .local := by
      unfold PySem.Env.kindOf
      rw [hs]
      exact h1
    have e1 : F (.Name x p) = some x := by
      rw [hF, hx, h2]
      simp
    rw [List.filterMap_cons_some e1, List.filterMap_cons_some (show nameOf (.Name x p) = some x from rfl), a1]
    exact ⟨rfl, by simp [a2]⟩
theorem swap_par {sc : Scope} {es vs : List Expr} {k k2 : Nat} {p p2 : Pos} {env : PySem.Env} (hs : env.scope = sc) (h : swapPar sc es vs = true) : swappedStores [.Tuple es k p] (.Tuple vs k2 p2) env = pure (some (es.filterMap nameOf)) := by
  unfold swapPar at h
  simp only [Bool.and_eq_true, Bool.or_eq_true, decide_eq_true_eq, Bool.not_eq_true'] at h
  obtain ⟨⟨⟨⟨⟨⟨⟨hf, hl⟩, hl2⟩, hst⟩, hp⟩, hnd⟩, hfo⟩, hco⟩ := h
  have hk : env.blockKind = .function := by
    have : env.scope.kind = .function := by
      rw [hs]
      unfold isFun at hf
      split at hf
      · assumption
      · cases hf
    unfold PySem.Env.blockKind
    rw [this]
    rfl
  have a2 := (parNames_fm hs (fun e => match e with
      | .Name x p => if (env.kindOf x == some .local && p.line == ((es.head?.map (·.pos.line)).getD 0)) = true then some x else none
      | _ => none) (fun _ _ => rfl) hp).2
  unfold swappedStores
  simp only
  rw [if_neg]
  · rw [if_neg]
    · show (if _ then _ else _) = _
      rw [(parNames_fm hs _ (fun _ _ => rfl) hp).1, if_neg]
      · rw [if_neg (by simp [hfo]), if_neg (by simp [hco])]
      · rw [eraseDups_nodup hnd, a2]
        simp
    · simp only [List.any_eq_true, not_exists, not_and]
      intro e he
      have := List.all_eq_true.mp hst e he
      cases e <;> first | exact Bool.false_ne_true | cases this
  · rw [hk, hl2]
    rcases hl with e | e <;> rw [e] <;> decide
end Ev
end

section
set_option Elab.async false
set_option linter.all false
set_option maxRecDepth 100000
namespace Ev
open PySem L2 PyProof.Rows
variable [TabList]
/-! ### names of a parallel store; its values -/
def chkNames (ck : Ck) : List (Bool × Nat) → List Expr → Bool
  | [], [] => true
  | (_, i) :: ts, .Name x _ :: es => ck.loc i x && chkNames ck ts es
  | _, _ => false
/-- always a list that may be owned -/
def owns : E → Bool
  | .lst _ => true
  | .lc .. => true
  | .lc2 .. => true
  | _ => false
theorem owns_of {Γ : Gm} {c : E} (h : owns c = true) : ∀ env hp d hp', evE reprL Γ c env hp = some (.ok d hp') → ownable d = true := by
  cases c <;> first | cases h | skip
  · exact lst_lst
  · exact lc_lst
  · exact lc2_lst
def chkPs (ck : Ck) : List Bool → List E → List Expr → Bool
  | [], [], [] => true
  | f :: fs, c :: cs, x :: xs => notStar x && chk ck (if f then .f else .e) noE c x && (!f || owns c) && chkPs ck fs cs xs
  | _, _, _ => false
def isName : Expr → Bool
  | .Name .. => true
  | _ => false
section
variable {Y : Yd} {X : Cx} {ck : Ck}
theorem chkPs_sound (G : Good Y X ck) : ∀ {fs : List Bool} {cs : List E} {xs : List Expr}, chkPs ck fs cs xs = true → PA X xs (tP X.K Y fs cs) ∧ xs.length = cs.length ∧ fs.length = cs.length
  | [], [], [], _ => ⟨p_nil, rfl, rfl⟩
  | [], [], _ :: _, h => by simp [chkPs] at h
  | [], _ :: _, _, h => by simp [chkPs] at h
  | _ :: _, [], _, h => by simp [chkPs] at h
  | _ :: _, _ :: _, [], h => by simp [chkPs] at h
  | f :: fs, c :: cs, x :: xs, h => by
    rw [chkPs] at h
    simp only [andI] at h
    obtain ⟨h1, h2, h3⟩ := chkPs_sound G h.2
    refine ⟨?_, congrArg (· + 1) h2, congrArg (· + 1) h3⟩
    cases f with
    | false => exact p_val (chk_sound c ck .e noE x X G h.1.1.2) h1 h.1.1.1
    | true => exact p_own (owns_of (by simpa using h.1.2)) (chk_sound c ck .f noE x X G h.1.1.2) h1 h.1.1.1
theorem chkNames_gn (G : Good Y X ck) : ∀ {ts : List (Bool × Nat)} {es : List Expr}, chkNames ck ts es = true → PGs X es (gNames (ts.map (·.2))) ∧ es.length = ts.length ∧ es.all notStar = true
  | [], [], _ => ⟨gn_nil, rfl, rfl⟩
  | [], _ :: _, h => by simp [chkNames] at h
  | (_, _) :: _, [], h => by simp [chkNames] at h
  | (f, i) :: ts, e :: es, h => by
    cases e <;> simp only [chkNames, reduceCtorEq] at h
    rw [Bool.and_eq_true] at h
    obtain ⟨h1, h2, h3⟩ := G.loc h.1
    obtain ⟨k1, k2, k3⟩ := chkNames_gn G h.2
    exact ⟨gn_cons G.nd h1 h2 h3 k1, congrArg (· + 1) k2, by rw [List.all_cons, k3]; rfl⟩
theorem local_of (G : Good Y X ck) {x : Str} {l : Nat} {p : Pos} {es : List Expr} (h : parNames ck.sc l (.Name x p :: es) = true) : X.env.scope.names.lookup x = some .local ∧ parNames ck.sc l es = true := by
  rw [parNames] at h
  simp only [andI, decI] at h
  exact ⟨by rw [G.sc]; exact h.1.1, h.2⟩
theorem slot_ne (G : Good Y X ck) {i j : Nat} {x y : Str} (hi : X.N[i]? = some x) (hj : X.N[j]? = some y) (h : x ≠ y) : i ≠ j := fun e => by
  subst e
  rw [hi] at hj
  exact h (Option.some.inj hj)
/-- a, b = .. -/
theorem par_sound (G : Good Y X ck) (hc : ck.calm = true) {es vs : List Expr} {k k2 : Nat} {p1 p2 pos : Pos} {ts : List (Bool × Nat)} {cs : List E} (hn : chkNames ck ts es = true) (hv : chkPs ck (ts.map (·.1)) cs vs = true) (hl : cs.length ≤ 1000) (hs : swapPar ck.sc es vs = true ∨ flatPar ck.sc es vs = true) :
    PS X (.Assign [.Tuple es k p1] (.Tuple vs k2 p2) pos) (tS X.K Y (.par ts cs)) := by
  obtain ⟨q1, q2, q3⟩ := chkPs_sound G hv
  obtain ⟨g1, g2, g3⟩ := chkNames_gn G hn
  rcases hs with hs | hs
  · have sw := swap_par (k := k) (k2 := k2) (p := p1) (p2 := p2) G.sc hs
    unfold swapPar at hs
    simp only [Bool.and_eq_true, Bool.or_eq_true, decide_eq_true_eq, Bool.not_eq_true'] at hs
    obtain ⟨⟨⟨⟨⟨⟨⟨hf, hlen⟩, hl2⟩, hst⟩, hp⟩, hnd⟩, hfo⟩, hco⟩ := hs
    rcases hlen with e | e
    · match es, e, hn, hp, hnd, sw, hl2, g2 with
      | [a, b], _, hn, hp, hnd, sw, hl2, g2 =>
        match ts, g2, hn, hv, q1 with
        | [(f1, i), (f2, j)], _, hn, hv, q1 =>
          cases a <;> simp only [chkNames, reduceCtorEq] at hn
          cases b <;> simp only [chkNames, reduceCtorEq, Bool.and_eq_true, Bool.false_eq_true, and_false] at hn
          match vs, hl2, q1, hv, sw with
          | [u, v], _, q1, hv, sw =>
            obtain ⟨l1, l2⟩ := local_of G hp
            obtain ⟨l3, _⟩ := local_of G l2
            obtain ⟨n1, _⟩ := G.loc hn.1
            obtain ⟨n2, _⟩ := G.loc hn.2.1
            have ne := List.nodup_cons.mp (show [_, _].Nodup from hnd)
            exact s_par2 (G.calm hc) G.nd n1 n2 (slot_ne G n1 n2 (by simpa using ne.1)) l1 l3 q1 sw
    · match es, e, hn, hp, hnd, sw, hl2, g2 with
      | [a, b, c], _, hn, hp, hnd, sw, hl2, g2 =>
        match ts, g2, hn, hv, q1 with
        | [(f1, i), (f2, j), (f3, l)], _, hn, hv, q1 =>
          cases a <;> simp only [chkNames, reduceCtorEq] at hn
          cases b <;> simp only [chkNames, reduceCtorEq, Bool.and_eq_true, Bool.false_eq_true, and_false] at hn
          cases c <;> simp only [chkNames, reduceCtorEq, Bool.and_eq_true, Bool.false_eq_true, and_false] at hn
          match vs, hl2, q1, hv, sw with
          | [u, v, w], _, q1, hv, sw =>
            obtain ⟨l1, l2⟩ := local_of G hp
            obtain ⟨l3, l4⟩ := local_of G l2
            obtain ⟨l5, _⟩ := local_of G l4
            obtain ⟨n1, _⟩ := G.loc hn.1
            obtain ⟨n2, _⟩ := G.loc hn.2.1
            obtain ⟨n3, _⟩ := G.loc hn.2.2.1
            have nd := (show [_, _, _].Nodup from hnd)
            simp only [List.nodup_cons, List.mem_cons, List.not_mem_nil, or_false, not_or] at nd
            exact s_par3 (G.calm hc) G.nd n1 n2 n3 (slot_ne G n1 n2 nd.1.1) (slot_ne G n1 n3 nd.1.2) (slot_ne G n2 n3 nd.2.1) l1 l3 l5 q1 sw
  · obtain ⟨b1, b2⟩ := asgEach_ok g3 X.env
    exact s_parN (G.calm hc) (Nat.le_trans hl (by decide)) (by rw [← q3, List.length_map]) q1 g1 (b1.trans g2) b2 (swSole_ok rfl) (noSwap_par G.sc hs) rfl
end
end Ev
end

section
set_option Elab.async false
set_option linter.all false
set_option maxRecDepth 100000
namespace Ev
open PySem L2 PyProof.Rows
variable [TabList]
def isLc : E → Bool
  | .lc .. | .lc2 .. => true
  | _ => false
def isStarTuple : Expr → Expr → Bool
  | .Tuple .., .Tuple .. => true
  | _, _ => false
def flatOf (sc : Scope) (es : List Expr) : Expr → Bool
  | .Tuple vs _ _ => flatPar sc es vs
  | _ => false
/-- an except clause's name and its slot -/
def chkNm (ck : Ck) : Option Str → Option Nat → Bool
  | none, none => true
  | some n, some i => decide (ck.N[i]? = some n) && decide (ck.sc.names.lookup n = some .local)
  | _, _ => false
mutual
def chkS (ck : Ck) : S → Stmt → Bool
  | .asg tg c, st => (match st with
      | .Assign [te] v _ => okVal v && isFun ck.sc && chk ck .e noE c v && (match te with
          | .Name x p => (match tg with | .name i => ck.loc i x | _ => false) && (!(swB ck.sc x p v) || isLc c)
          | .Tuple es _ _ => chkTg ck tg te && notComp v && (!(isTuple v) || flatOf ck.sc es v)
          | _ => false)
      | _ => false)
  | .par ts cs, st => (match st with
      | .Assign [.Name x p] v _ => (match ts, cs with
          | [(true, i)], [c] => okVal v && isFun ck.sc && chk ck .f noE c v && ck.loc i x && (!(swB ck.sc x p v) || isLc c)
          | _, _ => false)
      | .Assign [.Tuple es _ _] (.Tuple vs _ _) _ => ck.calm && chkNames ck ts es && chkPs ck (ts.map (·.1)) cs vs && decide (cs.length ≤ 1000) && (swapPar ck.sc es vs || flatPar ck.sc es vs)
      | _ => false)
  | .frz _, _ => false
  | .aug i o c, st => (match st with
      | .AugAssign (.Name x _) op v _ => ck.loc i x && decide (augOf op = some o) && chk ck .e noE c v
      | _ => false)
  | .app i c, st => (match st with
      | .Expr (.Call (.Attribute (.Name x _) nm ap) [y] [] cp) _ => decide (nm = "append") && ck.vis i x && notStar y && (ap.endLine == cp.line) && chk ck .e noE c y
      | _ => false)
  | .boxApp b c, st => (match st with
      | .Expr (.Call (.Attribute o nm ap) [y] [] cp) _ => decide (nm = "append") && notCall o && notStar y && (ap.endLine == cp.line) && chk ck .e noE b o && chk ck .e noE c y
      | _ => false)
  | .boxSet b i c, st => (match st with
      | .Assign [.Subscript o y _] v _ => notSlice y && notComp v && chk ck .e noE b o && chk ck .e noE i y && chk ck .e noE c v
      | _ => false)
  | .setO n i c, st => (match st with
      | .Assign [.Subscript (.Name x _) y _] v _ => ck.vis n x && notSlice y && notComp v && chk ck .e noE i y && chk ck .e noE c v
      | _ => false)
  | .ex c, st => (match st with
      | .Expr v _ => notComp v && chk ck .e noE c v
      | _ => false)
  | .ifs t a b, st => (match st with
      | .If y xa xb _ => chk ck .t noE t y && chkSs ck a xa && chkSs ck b xb
      | _ => false)
  | .whil t b, st => (match st with
      | .While y xb [] _ => chk ck .t noE t y && chkSs ck b xb
      | _ => false)
  | .for tg it b, st => (match st with
      | .For te ie xb [] _ => ck.calm && chkTg ck tg te && notSet ie && chk ck (.i true) te it ie && chkSs ck b xb
      | _ => false)
  | .ret c, st => (match st with
      | .Return (some v) _ => chk ck .e noE c v
      | _ => false)
  | .brk, st => (match st with
      | .Break _ => true
      | _ => false)
  | .cont, st => (match st with
      | .Continue _ => true
      | _ => false)
  | .pass, st => (match st with
      | .Pass _ => true
      | _ => false)
  | .raise c ns es, st => (match st with
      | .Raise (some (.Call (.Name nm _) (y :: ys) [] _)) none _ => ck.calm && ck.gl nm && ck.errs.any (fun s => decide (s.name = nm) && decide (s.idx = c) && decide (s.ns.reverse = ns)) && decide (es.length ≤ 1000) && chkEs ck es (y :: ys)
      | _ => false)
  | .tryy b hs, st => (match st with
      | .Try body (h₀ :: hds) [] [] _ => chkSs ck.tr b body && chkHs ck hs (h₀ :: hds)
      | _ => false)
  | .setF _ _ _ _, _ => false
def chkSs (ck : Ck) : List S → List Stmt → Bool
  | [], [] => true
  | s :: ss, sts => (match s with
      | .frz _ => chkSs ck ss sts
      | s => (match sts with
          | st :: sts => chkS ck s st && chkSs ck ss sts
          | [] => false))
  | [], _ :: _ => false
def chkHs (ck : Ck) : Hs → List ExceptHandler → Bool
  | .nil, [] => true
  | .cons cs no i b r, .ExceptHandler (some (.Name x _)) nm (st :: suite) _ :: hds => ck.gl x && decide ((x, cs, no) ∈ ck.xns) && chkNm ck nm i && chkSs ck.suite b (st :: suite) && chkHs ck r hds
  | _, _ => false
end
theorem chkS_raise (ck : Ck) (st : Stmt) (c : Nat) (ns : List Str) (es : List E) : chkS ck (.raise c ns es) st = (match st with
      | .Raise (some (.Call (.Name nm _) (y :: ys) [] _)) none _ => ck.calm && ck.gl nm && ck.errs.any (fun s => decide (s.name = nm) && decide (s.idx = c) && decide (s.ns.reverse = ns)) && decide (es.length ≤ 1000) && chkEs ck es (y :: ys)
      | _ => false) := rfl
theorem chkS_tryy (ck : Ck) (st : Stmt) (b : List S) (hs : Hs) : chkS ck (.tryy b hs) st = (match st with
      | .Try body (h₀ :: hds) [] [] _ => chkSs ck.tr b body && chkHs ck hs (h₀ :: hds)
      | _ => false) := rfl
theorem chkSs_cons {ck : Ck} {s : S} {ss : List S} {st : Stmt} {sts : List Stmt} (hs : ∀ i, s ≠ .frz i) : chkSs ck (s :: ss) (st :: sts) = (chkS ck s st && chkSs ck ss sts) := by
  cases s <;> first | rfl | exact absurd rfl (hs _)
theorem chkS_asg (ck : Ck) (st : Stmt) (tg : Tg) (c : E) : chkS ck (.asg tg c) st = ((match st with
      | .Assign [te] v _ => okVal v && isFun ck.sc && chk ck .e noE c v && (match te with
          | .Name x p => (match tg with | .name i => ck.loc i x | _ => false) && (!(swB ck.sc x p v) || isLc c)
          | .Tuple es _ _ => chkTg ck tg te && notComp v && (!(isTuple v) || flatOf ck.sc es v)
          | _ => false)
      | _ => false)) := rfl
theorem chkS_par (ck : Ck) (st : Stmt) (ts : List (Bool × Nat)) (cs : List E) : chkS ck (.par ts cs) st = ((match st with
      | .Assign [.Name x p] v _ => (match ts, cs with
          | [(true, i)], [c] => okVal v && isFun ck.sc && chk ck .f noE c v && ck.loc i x && (!(swB ck.sc x p v) || isLc c)
          | _, _ => false)
      | .Assign [.Tuple es _ _] (.Tuple vs _ _) _ => ck.calm && chkNames ck ts es && chkPs ck (ts.map (·.1)) cs vs && decide (cs.length ≤ 1000) && (swapPar ck.sc es vs || flatPar ck.sc es vs)
      | _ => false)) := rfl
theorem chkS_aug (ck : Ck) (st : Stmt) (i : Nat) (o : Op2) (c : E) : chkS ck (.aug i o c) st = ((match st with
      | .AugAssign (.Name x _) op v _ => ck.loc i x && decide (augOf op = some o) && chk ck .e noE c v
      | _ => false)) := rfl
theorem chkS_app (ck : Ck) (st : Stmt) (i : Nat) (c : E) : chkS ck (.app i c) st = ((match st with
      | .Expr (.Call (.Attribute (.Name x _) nm ap) [y] [] cp) _ => decide (nm = "append") && ck.vis i x && notStar y && (ap.endLine == cp.line) && chk ck .e noE c y
      | _ => false)) := rfl
theorem chkS_boxApp (ck : Ck) (st : Stmt) (b : E) (c : E) : chkS ck (.boxApp b c) st = ((match st with
      | .Expr (.Call (.Attribute o nm ap) [y] [] cp) _ => decide (nm = "append") && notCall o && notStar y && (ap.endLine == cp.line) && chk ck .e noE b o && chk ck .e noE c y
      | _ => false)) := rfl
theorem chkS_boxSet (ck : Ck) (st : Stmt) (b : E) (i : E) (c : E) : chkS ck (.boxSet b i c) st = ((match st with
      | .Assign [.Subscript o y _] v _ => notSlice y && notComp v && chk ck .e noE b o && chk ck .e noE i y && chk ck .e noE c v
      | _ => false)) := rfl
theorem chkS_setO (ck : Ck) (st : Stmt) (n : Nat) (i : E) (c : E) : chkS ck (.setO n i c) st = ((match st with
      | .Assign [.Subscript (.Name x _) y _] v _ => ck.vis n x && notSlice y && notComp v && chk ck .e noE i y && chk ck .e noE c v
      | _ => false)) := rfl
theorem chkS_ex (ck : Ck) (st : Stmt) (c : E) : chkS ck (.ex c) st = ((match st with
      | .Expr v _ => notComp v && chk ck .e noE c v
      | _ => false)) := rfl
theorem chkS_ifs (ck : Ck) (st : Stmt) (t : E) (a : List S) (b : List S) : chkS ck (.ifs t a b) st = ((match st with
      | .If y xa xb _ => chk ck .t noE t y && chkSs ck a xa && chkSs ck b xb
      | _ => false)) := rfl
theorem chkS_whil (ck : Ck) (st : Stmt) (t : E) (b : List S) : chkS ck (.whil t b) st = ((match st with
      | .While y xb [] _ => chk ck .t noE t y && chkSs ck b xb
      | _ => false)) := rfl
theorem chkS_for (ck : Ck) (st : Stmt) (tg : Tg) (it : E) (b : List S) : chkS ck (.for tg it b) st = ((match st with
      | .For te ie xb [] _ => ck.calm && chkTg ck tg te && notSet ie && chk ck (.i true) te it ie && chkSs ck b xb
      | _ => false)) := rfl
theorem chkS_ret (ck : Ck) (st : Stmt) (c : E) : chkS ck (.ret c) st = ((match st with
      | .Return (some v) _ => chk ck .e noE c v
      | _ => false)) := rfl
theorem chkS_brk (ck : Ck) (st : Stmt)  : chkS ck (.brk) st = ((match st with
      | .Break _ => true
      | _ => false)) := rfl
theorem chkS_cont (ck : Ck) (st : Stmt)  : chkS ck (.cont) st = ((match st with
      | .Continue _ => true
      | _ => false)) := rfl
theorem chkS_pass (ck : Ck) (st : Stmt)  : chkS ck (.pass) st = ((match st with
      | .Pass _ => true
      | _ => false)) := rfl
end Ev
end

section
set_option Elab.async false
set_option linter.all false
set_option maxRecDepth 100000
namespace Ev
open PySem L2 PyProof.Rows
variable [TabList]
section
variable {Y : Yd} {X : Cx} {ck : Ck}
theorem swB_local (G : Good Y X ck) {x : Str} {p : Pos} {v : Expr} (h : swB ck.sc x p v = true) : X.env.scope.names.lookup x = some .local := by
  cases v <;> simp only [swB, reduceCtorEq, Bool.and_eq_true, beq_iff_eq] at h
  rw [G.sc]
  exact h.1.1
theorem lc_store (G : Good Y X ck) {md : Md} {c : E} {x : Str} {p pos : Pos} {v : Expr} {i : Nat} {B : S} (hc : isLc c = true) (h : chk ck md noE c v = true) (hsw : swB ck.sc x p v = true) (hf : isFun ck.sc = true) (ho : okVal v = true) (hl : ck.loc i x = true)
    (hB : ∀ (D : Ends) σ H, tS X.K Y B D σ H → tFg X.K Y c σ H fun v H1 => D.nx (σ.set i (some v)) H1) : PS X (.Assign [.Name x p] v pos) (tS X.K Y B) := by
  have sw := (swB_ok (l := pos.line) (p := p) (x := x) G.sc hf ho).trans (by rw [hsw])
  have hy := swB_local G hsw
  obtain ⟨n1, _, _⟩ := G.loc hl
  cases c <;> first | cases hc | skip
  · rename_i elt tg it cnd
    rw [chk_lc, Bool.and_eq_true] at h
    obtain ⟨h, hp⟩ := h
    split at h
    · simp only [andI, decI] at h
      obtain ⟨⟨⟨⟨⟨⟨⟨hca, rfl⟩, hs⟩, h1⟩, h2⟩, h3⟩, h4⟩, h5⟩ := h
      exact set_lc (G.calm hca) G.nd n1 hy sw (chk_sound it ck (.i false) _ _ X G h1) (by rw [G.N, G.sc]; exact blkOk_by h2) ownOf_snd (fun s H C cl fp => tg_sound (G.blk s H _ cl C fp) h3) (fun s H C cl fp => chkC_sound cnd _ _ _ (G.blk s H _ cl C fp) h4)
        (fun s H C cl fp => eg fun g hg => chk_sound elt _ .e noE _ _ (G.blk s H _ cl C fp) h5 g hg) (notSet_ok hs _) hB
    · cases h
  · rename_i elt tg it cnd tg2 it2 cnd2
    rw [chk_lc2, Bool.and_eq_true] at h
    obtain ⟨h, hp⟩ := h
    split at h
    · simp only [andI, decI] at h
      obtain ⟨⟨⟨⟨⟨⟨⟨⟨⟨⟨⟨⟨hca, rfl⟩, rfl⟩, hs⟩, hs2⟩, h1⟩, h2⟩, h3⟩, h4⟩, h5⟩, h6⟩, h7⟩, h8⟩ := h
      exact set_lc2 (G.calm hca) G.nd n1 hy sw (chk_sound it ck (.i false) _ _ X G h1) (by rw [G.N, G.sc]; exact blkOk_by h2) ownOf_snd (fun s H C cl fp => tg_sound (G.blk s H _ cl C fp) h3) (fun s H C cl fp => chkC_sound cnd _ _ _ (G.blk s H _ cl C fp) h4)
        (fun s H C cl fp => ig fun g hg => chk_sound it2 _ (.i false) _ _ _ (G.blk s H _ cl C fp) h5 g hg) (fun s H C cl fp => tg_sound (G.blk s H _ cl C fp) h6) (fun s H C cl fp => chkC_sound cnd2 _ _ _ (G.blk s H _ cl C fp) h7)
        (fun s H C cl fp => eg fun g hg => chk_sound elt _ .e noE _ _ (G.blk s H _ cl C fp) h8 g hg) (notSet_ok hs _) (fun env => notSet_ok hs2 env) hB
    · cases h
theorem isLc_lst {c : E} (h : isLc c = true) : ∀ env hp d hp', evE reprL Y.Γ c env hp = some (.ok d hp') → ownable d = true := by
  cases c <;> first | cases h | skip
  · exact lc_lst
  · exact lc2_lst
theorem few_ok {y : Expr} (ns : notStar y = true) (cp : Pos) (env : PySem.Env) :
    ((backTo cp (starEach [y] env)).all (fun x => !x.1) && (backToKw cp (keywordEach [] env)).all (fun x => x.1.isSome) && decide ([y].length + ([] : List Keyword).length + (if ([] : List Keyword).isEmpty then 0 else 1) < 30)) = true := by
  rw [star_cons ns]
  rfl
/-- the def's own frame -/
def Fram (X : Cx) : Prop := X.env.frame = some X.env.locals ∧ X.stack = X.env :: X.outer
theorem chkEs_star {ck : Ck} : ∀ {cs : List E} {xs : List Expr}, chkEs ck cs xs = true → xs.all notStar = true
  | [], [], _ => rfl
  | [], _ :: _, h => by simp [chkEs] at h
  | _ :: _, [], h => by simp [chkEs] at h
  | c :: cs, x :: xs, h => by
    rw [chkEs] at h
    simp only [andI] at h
    rw [List.all_cons, h.1.1, chkEs_star h.2]
    rfl
theorem chkHs_inv {ck : Ck} {cs no : List Nat} {i : Option Nat} {b : List S} {r : Hs} : ∀ {hds : List ExceptHandler}, chkHs ck (.cons cs no i b r) hds = true → ∃ x np nm st suite pos hds', hds = .ExceptHandler (some (.Name x np)) nm (st :: suite) pos :: hds' ∧
    ck.gl x = true ∧ (x, cs, no) ∈ ck.xns ∧ chkNm ck nm i = true ∧ chkSs ck.suite b (st :: suite) = true ∧ chkHs ck r hds' = true
  | [], h => by cases h
  | .ExceptHandler t nm su pos :: hds, h => by
    match t, su, h with
    | some (.Name x np), st :: suite, h =>
      have h : (ck.gl x && decide ((x, cs, no) ∈ ck.xns) && chkNm ck nm i && chkSs ck.suite b (st :: suite) && chkHs ck r hds) = true := h
      simp only [andI, decI] at h
      exact ⟨x, np, nm, st, suite, pos, hds, rfl, h.1.1.1.1, h.1.1.1.2, h.1.1.2, h.1.2, h.2⟩
theorem nm_of (G : Good Y X ck) {nm : Option Str} {i : Option Nat} (h : chkNm ck nm i = true) : NmOk X nm i := by
  unfold chkNm at h
  split at h
  · exact .no
  · simp only [andI, decI] at h
    refine .name (by rw [G.N]; exact h.1) ?_
    show X.env.scope.names.lookup _ = _
    rw [G.sc]
    exact h.2
  · cases h
theorem flat_ok (G : Good Y X ck) {es : List Expr} {k : Nat} {p : Pos} {v : Expr} (h : (!(isTuple v) || flatOf ck.sc es v) = true) : swappedStores [.Tuple es k p] v X.env = pure none := by
  by_cases e : isTuple v = true
  · rw [e] at h
    cases v <;> first | cases h | exact noSwap_par G.sc h
  · exact noSwap_v (by simpa using e)
mutual
theorem chkS_sound : ∀ (c : S) {Y : Yd} (ck : Ck) (st : Stmt) (X : Cx), Good Y X ck → PassesOwn (model X.prog X.w) X.A X.env X.xe → Fram X → chkS ck c st = true → PS X st (tS X.K Y c)
  | .asg tg c, Y, ck, st, X, G, P, fr, h => by
    rw [chkS_asg] at h
    split at h
    · simp only [andI] at h
      obtain ⟨⟨⟨ho, hf⟩, h1⟩, h⟩ := h
      split at h
      · rw [Bool.and_eq_true] at h
        obtain ⟨ht, hw⟩ := h
        split at ht
        · rename_i v _ _ x p _ i
          by_cases e : swB ck.sc x p v = true
          · have hl : isLc c = true := by simpa [e] using hw
            exact lc_store G hl h1 e hf ho ht fun D σ H q => asg_fresh (isLc_lst hl) D σ H q
          · obtain ⟨n1, n2, n3⟩ := G.loc ht
            refine s_set G.nd n1 n2 (chk_sound c ck .e noE _ X G h1) ?_ n3
            rw [swB_ok G.sc hf ho, Bool.eq_false_iff.mpr e]
        · cases ht
      · rw [Bool.and_eq_true, Bool.and_eq_true] at h
        exact s_asg (chk_sound c ck .e noE _ X G h1) (tg_sound G h.1.1) (swSole_ok h.1.2) (flat_ok G h.2) rfl
      · cases h
    · cases h
  | .par ts cs, Y, ck, st, X, G, P, fr, h => by
    rw [chkS_par] at h
    split at h
    · split at h
      · simp only [andI] at h
        obtain ⟨⟨⟨⟨ho, hf⟩, h1⟩, hl⟩, hw⟩ := h
        rename_i x p v _ _ _ i c
        by_cases e : swB ck.sc x p v = true
        · have hlc : isLc c = true := by simpa [e] using hw
          exact lc_store G hlc h1 e hf ho hl fun D σ H q => own_reads q
        · obtain ⟨n1, n2, n3⟩ := G.loc hl
          refine s_own G.nd n1 n2 (chk_sound c ck .f noE _ X G h1) ?_ n3
          rw [swB_ok G.sc hf ho, Bool.eq_false_iff.mpr e]
      · cases h
    · simp only [Bool.and_eq_true, decide_eq_true_eq, Bool.or_eq_true] at h
      exact par_sound G h.1.1.1.1 h.1.1.1.2 h.1.1.2 h.1.2 h.2
    · cases h
  | .frz _, _, _, _, _, _, _, _, h => by cases h
  | .raise c ns es, Y, ck, st, X, G, P, fr, h => by
    rw [chkS_raise] at h
    split at h
    · simp only [andI, decI, List.any_eq_true] at h
      obtain ⟨⟨⟨⟨hc, hg⟩, s, hs, ⟨h1, h2⟩, h3⟩, few⟩, he⟩ := h
      obtain ⟨g1, g2⟩ := G.gl hg
      subst h2 h3
      obtain ⟨a1, _⟩ := chkEs_sound es ck _ X G he
      have st := chkEs_star he
      simp only [List.all_cons, Bool.and_eq_true] at st
      exact s_raise (G.calm hc) G.tk (G.errs hc s hs) h1 g1 g2 a1 few st.1 (star_all st.2 _ _)
    · cases h
  | .tryy b hs, Y, ck, st, X, G, P, fr, h => by
    rw [chkS_tryy] at h
    split at h
    · rw [Bool.and_eq_true] at h
      obtain ⟨l, hk⟩ := chkHs_sound hs ck _ X G fr h.2
      exact s_try fr.1 fr.2 G.nd G.tk (fun W pn xe tk P' => chkSs_sound b ck.tr _ (X.tr pn xe) (G.tr tk) P' fr h.1) hk
    · cases h
  | .setF _ _ _ _, _, _, _, _, _, _, _, h => by cases h
  | .aug i o c, Y, ck, st, X, G, P, fr, h => by
    rw [chkS_aug] at h
    split at h
    · simp only [andI, decI] at h
      obtain ⟨n1, n2, n3⟩ := G.loc h.1.1
      exact s_aug G.nd n1 n2 (chk_sound c ck .e noE _ X G h.2) (aug_ok h.1.2) n3
    · cases h
  | .app i c, Y, ck, st, X, G, P, fr, h => by
    rw [chkS_app] at h
    split at h
    · simp only [andI, decI] at h
      obtain ⟨⟨⟨⟨rfl, hv⟩, ns⟩, hl⟩, h1⟩ := h
      obtain ⟨n1, n2, n3, n4⟩ := G.vis hv
      exact s_app n1 n2 n3 n4 (chk_sound c ck .e noE _ X G h1) ns rfl hl (few_ok ns _ _)
    · cases h
  | .boxApp b c, Y, ck, st, X, G, P, fr, h => by
    rw [chkS_boxApp] at h
    split at h
    · simp only [andI, decI] at h
      obtain ⟨⟨⟨⟨⟨rfl, hc⟩, ns⟩, hl⟩, h1⟩, h2⟩ := h
      refine s_boxApp (chk_sound b ck .e noE _ X G h1) (chk_sound c ck .e noE _ X G h2) ns ?_ hl (few_ok ns _ _)
      rename_i o _ _ _ _
      cases o <;> first | rfl | cases hc
    · cases h
  | .boxSet b i c, Y, ck, st, X, G, P, fr, h => by
    rw [chkS_boxSet] at h
    split at h
    · simp only [andI] at h
      obtain ⟨⟨⟨⟨hs, hn⟩, h1⟩, h2⟩, h3⟩ := h
      refine s_boxSet (chk_sound b ck .e noE _ X G h1) (chk_sound i ck .e noE _ X G h2) (chk_sound c ck .e noE _ X G h3) ?_ (swSole_ok hn) (noSwap_t rfl) rfl
      rename_i y _ _ _
      cases y <;> first | exact fun _ => rfl | cases hs
    · cases h
  | .setO n i c, Y, ck, st, X, G, P, fr, h => by
    rw [chkS_setO] at h
    split at h
    · simp only [andI] at h
      obtain ⟨⟨⟨⟨hv, hs⟩, hn⟩, h2⟩, h3⟩ := h
      obtain ⟨v1, v2, v3, v4⟩ := G.vis hv
      refine s_setO v1 v2 v3 v4 (chk_sound i ck .e noE _ X G h2) (chk_sound c ck .e noE _ X G h3) ?_ (swSole_ok hn) (noSwap_t rfl) rfl
      rename_i y _ _ _
      cases y <;> first | exact fun _ => rfl | cases hs
    · cases h
  | .ex c, Y, ck, st, X, G, P, fr, h => by
    rw [chkS_ex] at h
    split at h
    · rw [Bool.and_eq_true] at h
      exact s_ex (chk_sound c ck .e noE _ X G h.2) (notComp_ok h.1 _ _ _)
    · cases h
  | .ifs t a b, Y, ck, st, X, G, P, fr, h => by
    rw [chkS_ifs] at h
    split at h
    · simp only [andI] at h
      exact s_if (chk_sound t ck .t noE _ X G h.1.1).1 (chkSs_sound a ck _ X G P fr h.1.2) (chkSs_sound b ck _ X G P fr h.2)
    · cases h
  | .whil t b, Y, ck, st, X, G, P, fr, h => by
    rw [chkS_whil] at h
    split at h
    · rw [Bool.and_eq_true] at h
      exact s_while P (chk_sound t ck .t noE _ X G h.1).1 (chkSs_sound b ck _ X G P fr h.2)
    · cases h
  | .for tg it b, Y, ck, st, X, G, P, fr, h => by
    rw [chkS_for] at h
    split at h
    · simp only [andI] at h
      exact s_for P (G.calm h.1.1.1.1) (chk_sound it ck (.i true) _ _ X G h.1.2) (tg_sound G h.1.1.1.2) (chkSs_sound b ck _ X G P fr h.2) (notSet_ok h.1.1.2 _)
    · cases h
  | .ret c, Y, ck, st, X, G, P, fr, h => by
    rw [chkS_ret] at h
    split at h
    · exact s_ret (chk_sound c ck .e noE _ X G h)
    · cases h
  | .brk, Y, ck, st, X, G, P, fr, h => by
    rw [chkS_brk] at h
    split at h
    · exact s_brk
    · cases h
  | .cont, Y, ck, st, X, G, P, fr, h => by
    rw [chkS_cont] at h
    split at h
    · exact s_cont
    · cases h
  | .pass, Y, ck, st, X, G, P, fr, h => by
    rw [chkS_pass] at h
    split at h
    · exact s_pass
    · cases h
theorem chkSs_sound : ∀ (cs : List S) {Y : Yd} (ck : Ck) (sts : List Stmt) (X : Cx), Good Y X ck → PassesOwn (model X.prog X.w) X.A X.env X.xe → Fram X → chkSs ck cs sts = true → PSs X sts (tSs X.K Y cs)
  | [], Y, ck, [], X, G, P, fr, h => ss_nil
  | [], Y, ck, _ :: _, X, G, P, fr, h => by cases h
  | c :: cs, Y, ck, sts, X, G, P, fr, h => by
    have key : (∃ i, c = .frz i ∧ chkSs ck cs sts = true) ∨ ∃ st r, sts = st :: r ∧ chkS ck c st = true ∧ chkSs ck cs r = true := by
      cases c with
      | frz i => exact .inl ⟨i, rfl, h⟩
      | _ =>
        cases sts with
        | nil => cases h
        | cons st r =>
          rw [chkSs_cons (fun _ z => by cases z), Bool.and_eq_true] at h
          exact .inr ⟨st, r, rfl, h.1, h.2⟩
    rcases key with ⟨i, rfl, h⟩ | ⟨st, r, rfl, h1, h2⟩
    · exact ss_frz (chkSs_sound cs ck sts X G P fr h)
    · exact ss_cons (chkS_sound c ck st X G P fr h1) (chkSs_sound cs ck r X G P fr h2)
theorem chkHs_sound : ∀ (hs : Hs) {Y : Yd} (ck : Ck) (hds : List ExceptHandler) (X : Cx), Good Y X ck → Fram X → chkHs ck hs hds = true → ∃ l, HsOk Y X hds hs l
  | .nil, Y, ck, [], X, G, fr, h => ⟨[], .nil⟩
  | .nil, Y, ck, _ :: _, X, G, fr, h => by cases h
  | .cons cs no i b r, Y, ck, hds, X, G, fr, h => by
    obtain ⟨x, np, nm, st, suite, pos, hds', rfl, h1, h2, h3, h4, h5⟩ := chkHs_inv h
    obtain ⟨g1, g2⟩ := G.gl h1
    obtain ⟨C, hm, ask⟩ := (G.xns _ h2).ex
    obtain ⟨l, hk⟩ := chkHs_sound r ck hds' X G fr h5
    exact ⟨_, .cons (C := C) ⟨g1, g2, .inl hm⟩ (fun c b e => (ask c b e).2.1) (nm_of G h3) (fun a dx c oe pn hz hf => chkSs_sound b ck.suite _ _ (G.suite hz hf) PassesOwn.never fr h4) hk⟩
end
/-- what the written part says of errors -/
def ErrAt (P : Program) (w : World) (K : PySem.W.Frag) (mg : Str → Option Value) (base : PySem.Heap) (k : Nat) (s : ErrSig) : Prop := ∃ j f fd, FnOk P w K mg base (L2.CX P w) j f fd s.ps (spI (TabList.cls s.idx) s.ps (num 1 s.ns)) ∧ j + 1 ≤ k ∧ mg s.name = some (.ref (TabList.cls s.idx)) ∧ OexC K (TabList.cls s.idx) ∧
  PySem.W.findIn K (.ref (TabList.cls s.idx)) "__init__" = some (some (.ref f)) ∧ PySem.W.typeIn K (.ref f) = some (.type "function") ∧ L2.Binds K fd s.ps [] ∧ s.ps.length = s.ns.length + 1
def XnAt (K : PySem.W.Frag) (mg : Str → Option Value) (x : Str) (cs no : List Nat) : Prop := ∃ C, mg x = some (.ref C) ∧ ∀ c b, among cs no c = some b → ExcC K (TabList.cls c) ∧ PySem.W.exmOne K (.ref (TabList.cls c)) (.ref C) = some b ∧ PySem.W.kitOne K (.ref (TabList.cls c)) (.ref C) = some b
def XfAt (K : PySem.W.Frag) (cs : List Nat) (f : Str) : Prop := ∀ c ∈ cs, ExcC K (TabList.cls c) ∧ PySem.W.findIn K (.ref (TabList.cls c)) f = some none
/-- .. of a def that hears lambdas -/
def HearAt (P : Program) (w : World) (K : PySem.W.Frag) (mg : Str → Option Value) (base : PySem.Heap) (Γ : Gm) (s : HearSig) : Prop := ∃ g pg bg sg dV kV doc pm cdv ct oc an od osl Ng a fn Γ', mg s.name = some (.ref g) ∧ PySem.W.keepIn K (.ref g) = true ∧ K.lookup g = some ⟨oc, od, .func (PySem.W.fnOf s.name s.name pg bg sg dV kV doc pm an cdv ct), osl⟩ ∧ PySem.W.codeIn K cdv s.name = true ∧
  L2.Binds K (PySem.W.fnOf s.name s.name pg bg sg dV kV doc pm an cdv ct) [a] [] ∧ FnScope Ng [a] sg ∧ Ng[0]? = some a ∧ Vis sg a ∧ okName a = true ∧ (∀ X : Cx, X.prog = P → X.w = w → X.K = K → X.mg = mg → X.base = base → Room 1 X.A → ∀ q, LamX.GivesTo X Ng s.name sg g cdv bg a q (TTh X.K Γ' fn)) ∧ Γ.fnA s.idx = evFnA reprL Γ' fn
/-- .. of a def that makes them -/
def LamAt (K : PySem.W.Frag) (mg : Str → Option Value) (base : PySem.Heap) (fd : FuncData) (qual : Str) : Prop := ∃ c P, LamX.TabB base mg c P ∧ fd.code = .ref c ∧ (P, qual ++ ".<locals>." ++ "<lambda>") ∈ TabList.T ∧ ∀ p ∈ TabList.T, p.1 = P → p.2 = qual ++ ".<locals>." ++ "<lambda>"
/-- a def, by the checker -/
theorem def_ok {P : Program} {w : World} {K : PySem.W.Frag} {mg : Str → Option Value} {base : PySem.Heap} {q : Bool} {k : Nat} {f : Addr} {fd : FuncData} {ps : List Str} {name qual : Str} {st : Stmt} {fn : Fn} {ck : Ck} {Γ : Gm} (F : Fun K name qual st f fd) (sc : FnScope ck.N ps (defScope st)) (hsc : ck.sc = defScope st) (hfn : ck.fn = fun _ => true)
    (hs : fn.slots = ck.N.length) (hm : fn.modes.length = ps.length) (hle : ps.length ≤ ck.N.length) (hq : ck.quiet = q) (lv : ck.lv + 2 ≤ k) (blt : ∀ x ∈ ck.blts, mg x = none)
    (fns : ∀ s ∈ ck.fns, ∃ j f fd, FnG P w K mg base (L2.CX P w) s.q j f fd s.ps (spF K (Γ.fn s.idx) s.modes) ∧ j ≤ ck.lv ∧ mg s.name = some (.ref f) ∧ PySem.W.keepIn K (.ref f) = true ∧ Binds K fd s.ps [] ∧ ∀ q ∈ s.kbl, KB K fd s.ps q.1 q.2.1 q.2.2)
    (cons : ∀ p ∈ ck.cons, ∃ v u, mg p.1 = some u ∧ RelV v u ∧ ∀ Fb m H, Rep K Fb m H v p.2)
    (errs : ∀ s ∈ ck.errs, ErrAt P w K mg base k s) (xns : ∀ p ∈ ck.xns, XnAt K mg p.1 p.2.1 p.2.2) (xfs : ∀ p ∈ ck.xfs, XfAt K p.1 p.2) (held : ck.held = false) (hears : ∀ s ∈ ck.hears, HearAt P w K mg base Γ s) (lam : ck.lam = true → LamAt K mg base fd qual)
    (h : chkSs ck fn.body (defBody st) = true) : FnG P w K mg base (L2.CX P w) q (k + 1) f fd ps (spF K (evFn reprL Γ fn) fn.modes) := by
  refine fnE_of F sc hs hm hle fun B frs t M W room gu => ?_
  refine chkSs_sound fn.body ck (defBody st) _ ⟨rfl, sc.nd, hsc.symm, hfn.symm, fun _ => rfl, fun z => gu (hq ▸ z), ?_, blt, fun s hs => ⟨fns s hs⟩, cons, takes_of rfl rfl rfl rfl, fun _ s hs => ?_, fun p hp => ⟨xns p hp⟩, fun p hp => xfs p hp, (fun z => by rw [held] at z; cases z), fun _ => room.mono (by omega), fun s hs => ?_, fun z => ⟨⟨lam z⟩, room.mono lv⟩⟩ PassesOwn.leaving ⟨rfl, rfl⟩ h
  · have := room.un
    show (B.deeper (envOfC qual (defScope st) t.heap.objs.size f fd.code)).units + 66 < cLine
    omega
  · obtain ⟨j, f', fd', F', hj, r⟩ := errs s hs
    exact ⟨j, f', fd', F', room.mono hj, r⟩
  · obtain ⟨g, pg, bg, sg, dV, kV, doc, pm, cdv, ct, oc, an, od, osl, Ng, a, fn', Γ', h1, h2, h3, h4, h5, h6, h7, h8, h9, h10, h11⟩ := hears s hs
    exact ⟨g, pg, bg, sg, dV, kV, doc, pm, cdv, ct, oc, an, od, osl, Ng, a, fn', Γ', h1, h2, h3, h4, h5, h6, h7, h8, h9, h10 _ rfl rfl rfl rfl rfl (room.mono (by omega)), h11⟩
/-- a def that hears lambdas, by the checker -/
def chkHear (ck : Ck) (a : Str) : List S → List Stmt → Bool
  | .tryy [s0] hs :: cr, .Try [st0] (h₀ :: hds) [] [] _ :: rest => (match s0, st0 with
      | .ex .act, .Expr (.Call (.Name y _) [] [] _) _ => decide (y = a)
      | .ret .act, .Return (some (.Call (.Name y _) [] [] _)) _ => decide (y = a)
      | _, _ => false) && chkHs ck hs (h₀ :: hds) && chkSs ck cr rest
  | _, _ => false
theorem hear_ok {P : Program} {w : World} {K : PySem.W.Frag} {mg : Str → Option Value} {base : PySem.Heap} {g : Addr} {a : Str} {st : Stmt} {fn : Fn} {ck : Ck} {Γ Γ' : Gm} {s : HearSig} {dV kV doc pm cdv ct oc : Value} {an od : Option Addr} {osl : Array (Option Value)} (hg : mg s.name = some (.ref g)) (kp : PySem.W.keepIn K (.ref g) = true)
    (lk : K.lookup g = some ⟨oc, od, .func (PySem.W.fnOf s.name s.name (defArgs st) (defBody st) (defScope st) dV kV doc pm an cdv ct), osl⟩) (hco : PySem.W.codeIn K cdv s.name = true) (bd : L2.Binds K (PySem.W.fnOf s.name s.name (defArgs st) (defBody st) (defScope st) dV kV doc pm an cdv ct) [a] [])
    (sc : FnScope ck.N [a] (defScope st)) (hsc : ck.sc = defScope st) (hfn : ck.fn = fun _ => true) (first : ck.N[0]? = some a) (vis : ck.vis 0 a = true) (hs : fn.slots = ck.N.length) (hq : ck.quiet = false) (lv : ck.lv = 0) (nofn : ck.fns = []) (blt : ∀ x ∈ ck.blts, mg x = none) (cons : ∀ p ∈ ck.cons, ∃ v u, mg p.1 = some u ∧ RelV v u ∧ ∀ Fb m H, Rep K Fb m H v p.2)
    (noerr : ck.errs = []) (xns : ∀ p ∈ ck.xns, XnAt K mg p.1 p.2.1 p.2.2) (xfs : ∀ p ∈ ck.xfs, XfAt K p.1 p.2) (held : ck.held = false) (nohear : ck.hears = []) (nolam : ck.lam = false) (same : Γ.fnA s.idx = evFnA reprL Γ' fn) (h : chkHear ck a fn.body (defBody st) = true) : HearAt P w K mg base Γ s := by
  unfold Ck.vis at vis
  simp only [andI, decI] at vis
  refine ⟨g, defArgs st, defBody st, defScope st, dV, kV, doc, pm, cdv, ct, oc, an, od, osl, ck.N, a, fn, Γ', hg, kp, lk, hco, bd, sc, first, ?_, vis.2, fun X hP hw hK hmg hbase room q => ?_, same⟩
  · unfold Vis
    rw [← hsc]
    have h2 := vis.1.2
    split at h2
    · exact .inl (by assumption)
    · exact .inr (.inl (by assumption))
    · exact .inr (.inr (by assumption))
    · cases h2
  · subst hP hw hK hmg hbase
    have good : ∀ (t : Shared) (H : Hp) (act : Heap → R D), Good (Yh Γ' act) (hearX X ck.N s.name (defScope st) g cdv t H) ck := fun t H act => by
      refine ⟨rfl, sc.nd, hsc.symm, hfn.symm, fun _ => rfl, (fun z => by rw [hq] at z; cases z), ?_, blt, (fun s hs => by rw [nofn] at hs; cases hs), cons, takes_never, (fun _ s hs => by rw [noerr] at hs; cases hs), fun p hp => ⟨xns p hp⟩, fun p hp => xfs p hp, (fun z => by rw [held] at z; cases z), (fun _ => by rw [lv]; exact room.deeper _), (fun s hs => by rw [nohear] at hs; cases hs), fun z => by rw [nolam] at z; cases z⟩
      have := (room.deeper (envOfC s.name (defScope st) t.heap.objs.size g cdv)).un
      show (X.A.deeper (envOfC s.name (defScope st) t.heap.objs.size g cdv)).units + 66 < cLine
      omega
    have key : ∃ s0 hs cr st0 h₀ hds pos rest, fn.body = .tryy [s0] hs :: cr ∧ defBody st = .Try [st0] (h₀ :: hds) [] [] pos :: rest ∧ Asks a st0 s0 ∧ chkHs ck hs (h₀ :: hds) = true ∧ chkSs ck cr rest = true := by
      unfold chkHear at h
      split at h
      · rename_i s0 hs cr st0 h₀ hds pos rest e1 e2
        simp only [andI] at h
        refine ⟨s0, hs, cr, st0, h₀, hds, pos, rest, e1, e2, ?_, h.1.2, h.2⟩
        have h1 := h.1.1
        split at h1
        · obtain rfl := of_decide_eq_true h1
          exact .ex
        · obtain rfl := of_decide_eq_true h1
          exact .ret
        · cases h1
      · cases h
    obtain ⟨s0, hs', cr, st0, h₀, hds, pos, rest, e1, e2, ask, k1, k2⟩ := key
    rw [e2]
    refine heard_gives e1 hs sc.nd (by have := (List.getElem?_eq_some_iff.mp first).1; omega) ask (fun t H act => chkHs_sound hs' ck _ _ (good t H act) ⟨rfl, rfl⟩ k1) fun t H act => chkSs_sound cr ck rest _ (good t H act) PassesOwn.never ⟨rfl, rfl⟩ k2
end
end Ev
end

section
set_option Elab.async false
set_option linter.all false
set_option maxRecDepth 100000
namespace Ev
open PySem L2 PyProof.Rows
variable [TabList]
theorem binds_of {K : PySem.W.Frag} {fd : FuncData} {ps : List Str} (b : ∀ (s : Shared) (us : List Value), us.length = ps.length → BindsTo s fd ⟨us, []⟩ (ps.zip us)) : Binds K fd ps [] := fun s us _ hl => by
  rw [List.append_nil] at hl ⊢
  exact b s us hl
theorem ints_repL {K : PySem.W.Frag} {Fb : Addr → Prop} {m : List Addr} {H : Hp} : ∀ ns : List Int, RepL K Fb m H (ns.map V.int) (ns.map D.int)
  | [] => .nil
  | _ :: ns => .cons (.int _) (ints_repL ns)
/-- the law's promise, of the script -/
theorem script_sp {K : PySem.W.Frag} {M : Hp} {a : Addr} {ns : List Int} {G : List D → Heap → R D} (sq : SqL K M a (ns.map V.int)) (ev : ∃ h, G [.lst (ns.map D.int)] [] = some (.ok (.bl true) h)) (tb : LamX.Tabs TabList.T M) :
    spF K G [true] [.ref a] M (fun v _ => v = .bl true) fun _ _ _ => False := by
  obtain ⟨h, ev⟩ := ev
  refine ⟨fun _ => False, [], [], [.lst (ns.map D.int)], ⟨rfl, fun k xs h => by simp at h, List.nodup_nil, fun a z => z.elim, tb⟩, .bor (.lst ?_ (ints_repL ns)) .nil, RR.of ev fun v H' m' _ _ r => ?_⟩
  · rcases sq with sq | sq
    · exact .inl ⟨sq, by simp⟩
    · exact .inr (.inr sq)
  · cases r
    rfl
theorem law_mk {C : FuncData → Prop} {K : PySem.W.Frag} {mg : Str → Option Value} {nm : Str} {fa : Addr} {k : Nat} {x : Str} {G : List D → Heap → R D} {P : Program} {w : World} {q : Program} {n : Nat} (hmg : mg nm = some (.ref fa)) (tb : List (Str × Addr × Addr))
    (ht : ∀ p ∈ tb, (∃ d : DefRec, (recsOf q).find? (fun e => e.name == p.1) = some d) ∧ PySem.W.tabIn K p.1 = some p.2 ∧ K.lookup p.2.2 = none) (hT : ∀ M : Hp, (∀ p ∈ tb, M p.2.2 = some (.tbl #[])) → LamX.Tabs TabList.T M)
    (answers : ∀ ns : List Int, ns.length ≤ n → ∃ h, G [.lst (ns.map D.int)] [] = some (.ok (.bl true) h))
    (h : ∃ f fd, (∀ (w : World) (base : PySem.Heap), K.In base → base.Ns mainGlobals mg → Tops base mg (tb.map (·.2.2)) → FnG P w K mg base (L2.CX P w) true k f fd [x] (spF K G [true])) ∧ mg nm = some (.ref f) ∧ PySem.W.keepIn K (.ref f) = true ∧ (∀ (s : Shared) (us : List Value), us.length = [x].length → BindsTo s fd ⟨us, []⟩ ([x].zip us)) ∧ C fd) :
    ∃ (fd : FuncData) (tb : List (Str × Addr × Addr)) (sp : Sp), (∀ (s : Shared) (u : Value), BindsTo s fd ⟨[u], []⟩ [(x, u)]) ∧ (∀ p ∈ tb, (∃ d : DefRec, (recsOf q).find? (fun e => e.name == p.1) = some d) ∧ PySem.W.tabIn K p.1 = some p.2 ∧ K.lookup p.2.2 = none) ∧
      (∀ (M : Hp) (a : Addr) (ns : List Int), ns.length ≤ n → (∀ p ∈ tb, M p.2.2 = some (.tbl #[])) → SqL K M a (ns.map V.int) → sp [.ref a] M (fun v _ => v = .bl true) fun _ _ _ => False) ∧
      ∀ base : PySem.Heap, K.In base → base.Ns mainGlobals mg → Tops base mg (tb.map (·.2.2)) → FnG P w K mg base (L2.CX P w) true k fa fd [x] sp := by
  obtain ⟨f, fd, F, hm, _, hb, _⟩ := h
  cases hmg.symm.trans hm
  exact ⟨fd, tb, _, fun s u => hb s [u] rfl, ht, fun M a ns hn hM sq => script_sp sq (answers ns hn) (hT M hM), fun base X G T => F w base X G T⟩
end Ev
end

section
set_option Elab.async false
set_option linter.all false
set_option maxRecDepth 100000
namespace Ev
open PySem PySem.Spec L2 PyProof.Rows PySem.W
/-! ### classes and tables, from the written part -/
def clsAt (K : Frag) (nm : Str) : Addr := match nsIn K mainGlobals nm with
  | some (some (.ref C)) => C
  | _ => 0
theorem clsAt_of {K : Frag} {nm : Str} {C : Addr} (h : nsIn K mainGlobals nm = some (some (.ref C))) : clsAt K nm = C := by
  unfold clsAt
  rw [h]
/-- fs: the defs that make lambdas; cs: the classes -/
@[reducible] def tabOf (K : Frag) (fs cs : List Str) : TabList where
  T := fs.map fun f => (((tabIn K f).getD (0, 0)).2, f ++ ".<locals>." ++ "<lambda>")
  cls := fun i => clsAt K (cs.getD i "")
section
variable {K : Frag} {C : Addr}
theorem oexC_mk {nm q : Str} {N : Addr} {bs bm : List Value} {sn : List Str} {sub : List Value} {ab : Bool} {col : Option Bool} {dd : Option Addr} {k0 k1 k2 k3 k5 : Option Value} (lC : K.lookup C = some (excClassObj nm q C N bs bm true sn sub ab col dd k0 k1 k2 k3 k5 "ValueError.__new__")) (hb : HandSPX.refsVE bm = true)
    (sa : findIn K (.ref C) "__setattr__" = some (some (.builtin "object.__setattr__"))) (exC : subIn K (.ref C) (.type "BaseException") = some true) (tyC : typeIn K (.ref C) = some (.type "type")) (kC : keepIn K (.ref C) = true) : OexC K C :=
  ⟨⟨nm, q, N, bs, bm, sn, sub, ab, col, dd, k0, k1, k2, k3, k5, lC, hb⟩, sa, exC, tyC, kC⟩
variable [TabList]
theorem among_of {cs no : List Nat} {F : Nat → Bool → Prop} (yes : ∀ c ∈ cs, F c true) (nay : ∀ c ∈ no, F c false) : ∀ c b, among cs no c = some b → F c b := fun c b h => by
  unfold among at h
  split at h
  · rename_i z
    cases h
    exact yes c (by simpa using z)
  · split at h
    · rename_i z
      cases h
      exact nay c (by simpa using z)
    · cases h
/-- an error class, by its __init__ -/
theorem errAt_mk {P : Program} {w : World} {mg : Str → Option Value} {base : PySem.Heap} {k : Nat} {s : ErrSig} {fI cda cc : Addr} {qual : Str} {params : Arguments} {sc : Scope} {st : Stmt} {rest : List Stmt} {fd : FuncData} (hc : TabList.cls s.idx = C) (hm : mg s.name = some (.ref C)) (T : OexC K C) (iC : findIn K (.ref C) "__init__" = some (some (.ref fI)))
    (tI : typeIn K (.ref fI) = some (.type "function")) (I0 : InitF P K mg C fI cda cc qual s.ps sc params (st :: rest) fd) (hst : chkSup st = true) (ne : s.ns ≠ []) (hl : chkIni s.ps (num 1 s.ns) rest = true) (nf : ∀ p ∈ num 1 s.ns, findIn K (.ref C) p.1 = some none) (few : (num 1 s.ns).length ≤ 900) (hb : L2.Binds K fd s.ps []) (len : s.ps.length = s.ns.length + 1) (hk : 2 ≤ k) :
    ErrAt P w K mg base k s := by
  subst hc
  obtain ⟨nm, idx, ns, ps⟩ := s
  cases ns with
  | nil => exact absurd rfl ne
  | cons n ns =>
    have few : (num (1 + 1) ns).length + 1 ≤ 900 := few
    exact ⟨1, fI, fd, fnInit I0 hst hl nf (by omega), hk, hm, T, iC, tI, hb, len⟩
end
/-- a tuple that the module holds -/
theorem tup_const {K : Frag} {mg : Str → Option Value} {nm : Str} {a : Addr} {od : Option Addr} {its : Array Value} {n : Nat} {sl : Array (Option Value)} {is : List Int} (hm : mg nm = some (.ref a)) (l : K.lookup a = some ⟨.type "tuple", od, .seq its n, sl⟩) (vals : Vals (is.map V.int) its.toList) (few : its.size ≤ sizeLine) [TabList] :
    ∃ v u, mg nm = some u ∧ RelV v u ∧ ∀ Fb m H, Rep K Fb m H v (.tup (is.map D.int)) :=
  ⟨.ref a, .ref a, hm, rfl, fun Fb m H => .tup (.inr ⟨_, its, n, l, rfl, rfl, few, vals⟩) (ints_repL is)⟩
theorem uniq_of {T : List (Addr × Str)} (nd : (T.map (·.1)).Nodup) {P : Addr} {q : Str} (h : (P, q) ∈ T) : ∀ p ∈ T, p.1 = P → p.2 = q := by
  induction T with
  | nil => cases h
  | cons t T ih =>
    rw [List.map_cons, List.nodup_cons] at nd
    intro p hp e
    rcases List.mem_cons.mp hp with z | z <;> rcases List.mem_cons.mp h with k | k
    · rw [z, ← k]
    · exact absurd (List.mem_map.mpr ⟨_, k, by rw [← e, z]⟩) nd.1
    · exact absurd (List.mem_map.mpr ⟨_, z, by rw [e, ← k]⟩) nd.1
    · exact ih nd.2 k p z e
theorem tabs_nil {T : List (Addr × Str)} {M : Hp} (h : ∀ p ∈ T, M p.1 = some (.tbl #[])) : LamX.Tabs T M := fun p hp => LamX.TabS.nil (h p hp)
theorem no_end {P : Program} {w : World} {M : Hp} {s s' : Shared} {e : Value} (h : L2.CX P w [] M s (fun _ _ _ => False) e s') : False := by
  obtain ⟨_, _, _, _, _, _, _, _, _, _, _, _, z⟩ := h
  exact z
/-- a def's code object and its table -/
theorem tab_mk {K : Frag} {x : Str} {f c P : Addr} {oc c1 : Value} {od d1 : Option Addr} {fd : FuncData} {sl s1 : Array (Option Value)} {vs : Array Value} (a : nsIn K mainGlobals x = some (some (.ref f))) (l : K.lookup f = some ⟨oc, od, .func fd, sl⟩) (hc : fd.code = .ref c) (lc : K.lookup c = some ⟨c1, d1, .fields vs, s1⟩) (v : vs[11]? = some (.ref P)) :
    tabIn K x = some (c, P) := by
  unfold tabIn
  rw [a]
  simp only [l, hc, lc, v]
end Ev
end

section
set_option Elab.async false
set_option linter.all false
set_option maxRecDepth 100000
namespace K01
open PySem PySem.Spec L2 Ev PyProof.Rows
def top (i : Nat) : Stmt := PySem.Challenge.pw_allworlds_k01_whole_fractions.main.body.getD i (.Pass ⟨0, 0, 0, 0⟩)
/-! is_integer -/
def b0 : List S := [
  .ret (.and (.op1 .isInt (.view 0)) (.op1 .not (.op1 .isBool (.view 0))))]
def f0 : Fn := ⟨1, [false], b0⟩
def T0 : Gm := (tabA [] [])
def G0 : List D → Ev.Heap → R D := evFn reprL T0 f0
def s0 : Sig := ⟨"is_integer", 0, [false], ["value"], [], false⟩
/-! shared_divisor -/
def b1 : List S := [
  .par [(false, 0), (false, 1)] [(.op1 .abs (.view 0)), (.op1 .abs (.view 1))],
  .whil (.op2 .gt (.view 1) (.cst (.int 0))) [.par [(false, 0), (false, 1)] [(.var 1), (.op2 .mod (.view 0) (.view 1))]],
  .ret (.var 0)]
def f1 : Fn := ⟨2, [false, false], b1⟩
def T1 : Gm := (tabA [G0] [])
def G1 : List D → Ev.Heap → R D := evFn reprL T1 f1
def s1 : Sig := ⟨"shared_divisor", 1, [false, false], ["one", "other"], [], false⟩
/-! common_bottom -/
def b2 : List S := [
  .asg (.name 1) (.cst (.int 1)),
  .for (.tup [(.name 2), (.name 3)]) (.peek 0) [.asg (.name 1) (.op2 .mul (.op2 .fdiv (.view 1) (.call 1 [(.var 1), (.var 3)])) (.view 3))],
  .ret (.var 1)]
def f2 : Fn := ⟨4, [false], b2⟩
def T2 : Gm := (tabA [G0, G1] [])
def G2 : List D → Ev.Heap → R D := evFn reprL T2 f2
def s2 : Sig := ⟨"common_bottom", 2, [false], ["fractions"], [(0, ["fractions"], [0])], false⟩
/-! fraction_of -/
def b3 : List S := [
  .ifs (.op2 .eq (.view 1) (.cst (.int 0))) [.raise 0 ["word"] [(.cst (.str "zero"))]] [],
  .asg (.name 2) (.call 1 [(.var 0), (.var 1)]),
  .ifs (.op2 .lt (.view 1) (.cst (.int 0))) [.asg (.name 2) (.op1 .neg (.view 2))] [],
  .ret (.tup [(.op2 .fdiv (.view 0) (.view 2)), (.op2 .fdiv (.view 1) (.view 2))])]
def f3 : Fn := ⟨3, [false, false], b3⟩
def T3 : Gm := (tabA [G0, G1, G2] [])
def G3 : List D → Ev.Heap → R D := evFn reprL T3 f3
def s3 : Sig := ⟨"fraction_of", 3, [false, false], ["top", "bottom"], [(0, ["bottom", "top"], [1, 0])], false⟩
/-! is_fraction -/
def b4 : List S := [
  .ifs (.or (.op1 .not (.op1 .isTup (.view 0))) (.or (.op2 .ne (.op1 .len (.view 0)) (.cst (.int 2))) (.op1 .not (.op1 .all (.lc (.call 0 [(.var 1)]) (.name 1) (.view 0) []))))) [.ret (.cst (.bl false))] [],
  .ret (.and (.op2 .gt (.op2 .ix (.view 0) (.cst (.int 1))) (.cst (.int 0))) (.op2 .eq (.call 1 [(.op2 .ix (.view 0) (.cst (.int 0))), (.op2 .ix (.view 0) (.cst (.int 1)))]) (.cst (.int 1))))]
def f4 : Fn := ⟨2, [false], b4⟩
def T4 : Gm := (tabA [G0, G1, G2, G3] [])
def G4 : List D → Ev.Heap → R D := evFn reprL T4 f4
def s4 : Sig := ⟨"is_fraction", 4, [false], ["value"], [(0, ["value"], [0])], false⟩
/-! added -/
def b5 : List S := [
  .ret (.call 3 [(.op2 .add (.op2 .mul (.op2 .ix (.view 0) (.cst (.int 0))) (.op2 .ix (.view 1) (.cst (.int 1)))) (.op2 .mul (.op2 .ix (.view 1) (.cst (.int 0))) (.op2 .ix (.view 0) (.cst (.int 1))))), (.op2 .mul (.op2 .ix (.view 0) (.cst (.int 1))) (.op2 .ix (.view 1) (.cst (.int 1))))])]
def f5 : Fn := ⟨2, [false, false], b5⟩
def T5 : Gm := (tabA [G0, G1, G2, G3, G4] [])
def G5 : List D → Ev.Heap → R D := evFn reprL T5 f5
def s5 : Sig := ⟨"added", 5, [false, false], ["one", "other"], [(0, ["other", "one"], [1, 0])], false⟩
/-! taken -/
def b6 : List S := [
  .ret (.call 3 [(.op2 .sub (.op2 .mul (.op2 .ix (.view 0) (.cst (.int 0))) (.op2 .ix (.view 1) (.cst (.int 1)))) (.op2 .mul (.op2 .ix (.view 1) (.cst (.int 0))) (.op2 .ix (.view 0) (.cst (.int 1))))), (.op2 .mul (.op2 .ix (.view 0) (.cst (.int 1))) (.op2 .ix (.view 1) (.cst (.int 1))))])]
def f6 : Fn := ⟨2, [false, false], b6⟩
def T6 : Gm := (tabA [G0, G1, G2, G3, G4, G5] [])
def G6 : List D → Ev.Heap → R D := evFn reprL T6 f6
def s6 : Sig := ⟨"taken", 6, [false, false], ["one", "other"], [(0, ["other", "one"], [1, 0])], false⟩
/-! timed -/
def b7 : List S := [
  .ret (.call 3 [(.op2 .mul (.op2 .ix (.view 0) (.cst (.int 0))) (.op2 .ix (.view 1) (.cst (.int 0)))), (.op2 .mul (.op2 .ix (.view 0) (.cst (.int 1))) (.op2 .ix (.view 1) (.cst (.int 1))))])]
def f7 : Fn := ⟨2, [false, false], b7⟩
def T7 : Gm := (tabA [G0, G1, G2, G3, G4, G5, G6] [])
def G7 : List D → Ev.Heap → R D := evFn reprL T7 f7
def s7 : Sig := ⟨"timed", 7, [false, false], ["one", "other"], [(0, ["other", "one"], [1, 0])], false⟩
/-! divided -/
def b8 : List S := [
  .ret (.call 3 [(.op2 .mul (.op2 .ix (.view 0) (.cst (.int 0))) (.op2 .ix (.view 1) (.cst (.int 1)))), (.op2 .mul (.op2 .ix (.view 0) (.cst (.int 1))) (.op2 .ix (.view 1) (.cst (.int 0))))])]
def f8 : Fn := ⟨2, [false, false], b8⟩
def T8 : Gm := (tabA [G0, G1, G2, G3, G4, G5, G6, G7] [])
def G8 : List D → Ev.Heap → R D := evFn reprL T8 f8
def s8 : Sig := ⟨"divided", 8, [false, false], ["one", "other"], [(0, ["other", "one"], [1, 0])], false⟩
/-! is_less -/
def b9 : List S := [
  .ret (.op2 .lt (.op2 .mul (.op2 .ix (.view 0) (.cst (.int 0))) (.op2 .ix (.view 1) (.cst (.int 1)))) (.op2 .mul (.op2 .ix (.view 1) (.cst (.int 0))) (.op2 .ix (.view 0) (.cst (.int 1)))))]
def f9 : Fn := ⟨2, [false, false], b9⟩
def T9 : Gm := (tabA [G0, G1, G2, G3, G4, G5, G6, G7, G8] [])
def G9 : List D → Ev.Heap → R D := evFn reprL T9 f9
def s9 : Sig := ⟨"is_less", 9, [false, false], ["one", "other"], [(0, ["other", "one"], [1, 0])], false⟩
/-! total_of_all -/
def b10 : List S := [
  .asg (.name 1) (.call 2 [(.var 0)]),
  .ret (.call 3 [(.op1 .sum (.lc (.op2 .mul (.view 2) (.op2 .fdiv (.view 1) (.view 3))) (.tup [(.name 2), (.name 3)]) (.view 0) [])), (.var 1)])]
def f10 : Fn := ⟨4, [false], b10⟩
def T10 : Gm := (tabA [G0, G1, G2, G3, G4, G5, G6, G7, G8, G9] [])
def G10 : List D → Ev.Heap → R D := evFn reprL T10 f10
def s10 : Sig := ⟨"total_of_all", 10, [false], ["fractions"], [(0, ["fractions"], [0])], false⟩
/-! product_of_all -/
def b11 : List S := [
  .asg (.name 1) (.cst (.tup [(.int 1), (.int 1)])),
  .for (.name 2) (.peek 0) [.asg (.name 1) (.call 7 [(.var 1), (.var 2)])],
  .ret (.var 1)]
def f11 : Fn := ⟨3, [false], b11⟩
def T11 : Gm := (tabA [G0, G1, G2, G3, G4, G5, G6, G7, G8, G9, G10] [])
def G11 : List D → Ev.Heap → R D := evFn reprL T11 f11
def s11 : Sig := ⟨"product_of_all", 11, [false], ["fractions"], [(0, ["fractions"], [0])], false⟩
/-! scaled_to_one -/
def b12 : List S := [
  .asg (.name 1) (.call 10 [(.var 0)]),
  .ifs (.op2 .eq (.view 1) (.cst (.tup [(.int 0), (.int 1)]))) [.raise 1 ["word"] [(.cst (.str "barred"))]] [],
  .ret (.op1 .tuple (.lc (.call 8 [(.var 2), (.var 1)]) (.name 2) (.view 0) []))]
def f12 : Fn := ⟨3, [false], b12⟩
def T12 : Gm := (tabA [G0, G1, G2, G3, G4, G5, G6, G7, G8, G9, G10, G11] [])
def G12 : List D → Ev.Heap → R D := evFn reprL T12 f12
def s12 : Sig := ⟨"scaled_to_one", 12, [false], ["weights"], [(0, ["weights"], [0])], false⟩
/-! _law_heap -/
def b13 : List S := [
  .par [(false, 2), (false, 3)] [(.lc (.op2 .add (.op2 .mul (.cst (.int 2)) (.op1 .abs (.view 1))) (.op1 .int (.op2 .lt (.view 1) (.cst (.int 0))))) (.name 1) (.op2 .sto (.view 0) (.cst (.int 60))) []), (.cst (.int 12011))],
  .for (.name 1) (.peek 2) [.asg (.name 3) (.op2 .mod (.op1 .int (.op2 .add (.op2 .add (.op2 .mul (.view 3) (.cst (.int 69621))) (.op2 .mod (.op1 .int (.view 1)) (.cst (.int 2147483563)))) (.cst (.int 29)))) (.cst (.int 2147483647)))],
  .ret (.cell (.lst [(.cell (.op1 .rev (.lc (.var 1) (.name 1) (.view 2) [(.op2 .ge (.view 1) (.op2 .pow (.cst (.int 10)) (.cst (.int 18))))]))), (.var 3)]))]
def f13 : Fn := ⟨4, [true], b13⟩
def T13 : Gm := (tabA [G0, G1, G2, G3, G4, G5, G6, G7, G8, G9, G10, G11, G12] [])
def G13 : List D → Ev.Heap → R D := evFn reprL T13 f13
def s13 : Sig := ⟨"_law_heap", 13, [true], ["_law_script"], [], true⟩
/-! _law_draw -/
def b14 : List S := [
  .whil (.and (.op2 .ne (.op2 .ix (.view 0) (.cst (.int 0))) (.lst [])) (.op2 .eq (.op2 .ix (.op2 .ix (.view 0) (.cst (.int 0))) (.op1 .neg (.cst (.int 1)))) (.cst (.int 0)))) [.ex (.pop (.op2 .ix (.view 0) (.cst (.int 0))))],
  .ifs (.op2 .ne (.op2 .ix (.view 0) (.cst (.int 0))) (.lst [])) [.asg (.name 2) (.pop (.op2 .ix (.view 0) (.cst (.int 0)))), .boxApp (.op2 .ix (.view 0) (.cst (.int 0))) (.op2 .fdiv (.view 2) (.view 1)), .ret (.op2 .mod (.op1 .int (.view 2)) (.view 1))] [],
  .boxSet (.var 0) (.cst (.int 1)) (.op2 .mod (.op1 .int (.op2 .add (.op2 .mul (.op2 .ix (.view 0) (.cst (.int 1))) (.cst (.int 48271))) (.cst (.int 17)))) (.cst (.int 2147483647))),
  .ret (.op2 .mod (.op1 .int (.op2 .fdiv (.op2 .ix (.view 0) (.cst (.int 1))) (.cst (.int 32)))) (.view 1))]
def f14 : Fn := ⟨3, [false, false], b14⟩
def T14 : Gm := (tabA [G0, G1, G2, G3, G4, G5, G6, G7, G8, G9, G10, G11, G12, G13] [])
def G14 : List D → Ev.Heap → R D := evFn reprL T14 f14
def s14 : Sig := ⟨"_law_draw", 14, [false, false], ["_law_heap_here", "_law_many"], [], true⟩
/-! _law_pick -/
def b15 : List S := [
  .ret (.op2 .ix (.view 1) (.call 14 [(.var 0), (.op1 .len (.view 1))]))]
def f15 : Fn := ⟨2, [false, false], b15⟩
def T15 : Gm := (tabA [G0, G1, G2, G3, G4, G5, G6, G7, G8, G9, G10, G11, G12, G13, G14] [])
def G15 : List D → Ev.Heap → R D := evFn reprL T15 f15
def s15 : Sig := ⟨"_law_pick", 15, [false, false], ["_law_heap_here", "_law_some"], [], true⟩
/-! _law_divisor -/
def b16 : List S := [
  .par [(false, 0), (false, 1)] [(.op1 .abs (.view 0)), (.op1 .abs (.view 1))],
  .for (.name 2) (.op1 .range (.cst (.int 4000))) [.ifs (.op2 .eq (.view 1) (.cst (.int 0))) [.brk] [], .par [(false, 0), (false, 1)] [(.var 1), (.op2 .mod (.op1 .int (.view 0)) (.view 1))]],
  .ret (.var 0)]
def f16 : Fn := ⟨3, [false, false], b16⟩
def T16 : Gm := (tabA [G0, G1, G2, G3, G4, G5, G6, G7, G8, G9, G10, G11, G12, G13, G14, G15] [])
def G16 : List D → Ev.Heap → R D := evFn reprL T16 f16
def s16 : Sig := ⟨"_law_divisor", 16, [false, false], ["_law_one", "_law_other"], [], true⟩
/-! _law_is_whole -/
def b17 : List S := [
  .ret (.and (.op1 .isInt (.view 0)) (.op1 .not (.op1 .isBool (.view 0))))]
def f17 : Fn := ⟨1, [false], b17⟩
def T17 : Gm := (tabA [G0, G1, G2, G3, G4, G5, G6, G7, G8, G9, G10, G11, G12, G13, G14, G15, G16] [])
def G17 : List D → Ev.Heap → R D := evFn reprL T17 f17
def s17 : Sig := ⟨"_law_is_whole", 17, [false], ["_law_value"], [], true⟩
/-! _law_is_fraction -/
def b18 : List S := [
  .ifs (.or (.op1 .not (.op1 .isTup (.view 0))) (.or (.op2 .ne (.op1 .len (.view 0)) (.cst (.int 2))) (.or (.op1 .not (.call 17 [(.op2 .ix (.view 0) (.cst (.int 0)))])) (.op1 .not (.call 17 [(.op2 .ix (.view 0) (.cst (.int 1)))]))))) [.ret (.cst (.bl false))] [],
  .ret (.and (.op2 .gt (.op2 .ix (.view 0) (.cst (.int 1))) (.cst (.int 0))) (.op2 .eq (.call 16 [(.op2 .ix (.view 0) (.cst (.int 0))), (.op2 .ix (.view 0) (.cst (.int 1)))]) (.cst (.int 1))))]
def f18 : Fn := ⟨1, [false], b18⟩
def T18 : Gm := (tabA [G0, G1, G2, G3, G4, G5, G6, G7, G8, G9, G10, G11, G12, G13, G14, G15, G16, G17] [])
def G18 : List D → Ev.Heap → R D := evFn reprL T18 f18
def s18 : Sig := ⟨"_law_is_fraction", 18, [false], ["_law_value"], [], true⟩
/-! _law_equal -/
def b19 : List S := [
  .ret (.and (.call 18 [(.var 0)]) (.op2 .eq (.op2 .mul (.op2 .ix (.view 0) (.cst (.int 0))) (.view 2)) (.op2 .mul (.view 1) (.op2 .ix (.view 0) (.cst (.int 1))))))]
def f19 : Fn := ⟨3, [false, false, false], b19⟩
def T19 : Gm := (tabA [G0, G1, G2, G3, G4, G5, G6, G7, G8, G9, G10, G11, G12, G13, G14, G15, G16, G17, G18] [])
def G19 : List D → Ev.Heap → R D := evFn reprL T19 f19
def s19 : Sig := ⟨"_law_equal", 19, [false, false, false], ["_law_value", "_law_top", "_law_bottom"], [], true⟩
/-! _law_integer -/
def b20 : List S := [
  .asg (.name 1) (.call 15 [(.var 0), (.lst [(.call 14 [(.var 0), (.cst (.int 13))]), (.call 14 [(.var 0), (.cst (.int 100))]), (.op2 .mul (.cst (.int 12)) (.call 14 [(.var 0), (.cst (.int 30))])), (.op2 .sub (.op2 .pow (.cst (.int 10)) (.cst (.int 6))) (.call 14 [(.var 0), (.cst (.int 9))])), (.call 14 [(.var 0), (.op2 .pow (.cst (.int 10)) (.cst (.int 6)))]), (.op2 .add (.op2 .pow (.cst (.int 10)) (.cst (.int 30))) (.call 14 [(.var 0), (.op2 .pow (.cst (.int 10)) (.cst (.int 9)))]))])]),
  .ret (.op2 .mul (.view 1) (.call 15 [(.var 0), (.lst [(.cst (.int 1)), (.cst (.int 1)), (.op2 .sub (.cst (.int 0)) (.cst (.int 1)))])]))]
def f20 : Fn := ⟨2, [false], b20⟩
def T20 : Gm := (tabA [G0, G1, G2, G3, G4, G5, G6, G7, G8, G9, G10, G11, G12, G13, G14, G15, G16, G17, G18, G19] [])
def G20 : List D → Ev.Heap → R D := evFn reprL T20 f20
def s20 : Sig := ⟨"_law_integer", 20, [false], ["_law_heap_here"], [], true⟩
/-! _law_part -/
def b21 : List S := [
  .par [(false, 2), (false, 3)] [(.call 20 [(.var 0)]), (.op2 .add (.op1 .abs (.call 20 [(.var 0)])) (.cst (.int 1)))],
  .asg (.name 1) (.call 16 [(.var 2), (.var 3)]),
  .ret (.tup [(.op2 .fdiv (.view 2) (.view 1)), (.op2 .fdiv (.view 3) (.view 1))])]
def f21 : Fn := ⟨4, [false], b21⟩
def T21 : Gm := (tabA [G0, G1, G2, G3, G4, G5, G6, G7, G8, G9, G10, G11, G12, G13, G14, G15, G16, G17, G18, G19, G20] [])
def G21 : List D → Ev.Heap → R D := evFn reprL T21 f21
def s21 : Sig := ⟨"_law_part", 21, [false], ["_law_heap_here"], [], true⟩
/-! _law_odd -/
def b22 : List S := [
  .asg (.name 2) (.op2 .add (.cst (.int 2)) (.call 14 [(.var 0), (.cst (.int 5))])),
  .asg (.name 3) (.lst [(.tup [(.op2 .mul (.op2 .ix (.view 1) (.cst (.int 0))) (.view 2)), (.op2 .mul (.op2 .ix (.view 1) (.cst (.int 1))) (.view 2))]), (.tup [(.op2 .ix (.view 1) (.cst (.int 0))), (.op2 .sub (.cst (.int 0)) (.op2 .ix (.view 1) (.cst (.int 1))))]), (.tup [(.op2 .ix (.view 1) (.cst (.int 0))), (.cst (.int 0))]), (.lst [(.op2 .ix (.view 1) (.cst (.int 0))), (.op2 .ix (.view 1) (.cst (.int 1)))]), (.op2 .add (.view 1) (.tup [(.cst (.int 1))])), (.op2 .sto (.view 1) (.cst (.int 1))), (.tup [(.cst (.bl true)), (.cst (.int 1))]), (.tup [(.op2 .ix (.view 1) (.cst (.int 0))), (.cst .non)])]),
  .ret (.call 15 [(.var 0), (.op2 .add (.view 3) (.lst [(.tup [(.cst (.int 0)), (.op2 .add (.cst (.int 2)) (.call 14 [(.var 0), (.cst (.int 3))]))]), (.tup [(.cst (.int 0)), (.cst (.int 1))]), (.tup [(.cst (.int 1)), (.cst (.bl true))]), (.tup [(.cst (.str "1")), (.cst (.int 2))]), (.cst .non), (.cst (.int 7)), (.tup []), (.tup [(.tup [(.cst (.int 1)), (.cst (.int 2))]), (.cst (.int 3))]), (.tup [(.op2 .ix (.view 1) (.cst (.int 0))), (.lst [(.cst (.int 2))])]), (.tup [(.op2 .sub (.cst (.int 0)) (.op2 .ix (.view 1) (.cst (.int 0)))), (.op2 .ix (.view 1) (.cst (.int 1)))])]))])]
def f22 : Fn := ⟨4, [false, false], b22⟩
def T22 : Gm := (tabA [G0, G1, G2, G3, G4, G5, G6, G7, G8, G9, G10, G11, G12, G13, G14, G15, G16, G17, G18, G19, G20, G21] [])
def G22 : List D → Ev.Heap → R D := evFn reprL T22 f22
def s22 : Sig := ⟨"_law_odd", 22, [false, false], ["_law_heap_here", "_law_one"], [], true⟩
/-! _law_heard -/
def b23 : List S := [
  .tryy [.ex .act] (.cons [0] [1] (some 1) [.ret (.ite (.and (.exIs 1 [0, 1] []) (.op1 .not (.exIs 1 [1] [0]))) (.exFld 1 [0] "word") (.cst (.str "mixed")))] (.cons [1] [0] (some 1) [.ret (.ite (.exIs 1 [0, 1] []) (.op2 .add (.cst (.str "refused ")) (.exFld 1 [1] "word")) (.cst (.str "mixed")))] .nil)),
  .ret (.cst (.str ""))]
def f23 : Fn := ⟨2, [false], b23⟩
def A23 : (Ev.Heap → R D) → Ev.Heap → R D := evFnA reprL (tab []) f23
/-! _law_pair_right -/
def b24 : List S := [
  .asg (.tup [(.tup [(.name 2), (.name 3)]), (.tup [(.name 4), (.name 5)])]) (.tup [(.var 0), (.var 1)]),
  .ifs (.op1 .not (.call 19 [(.call 5 [(.var 0), (.var 1)]), (.op2 .add (.op2 .mul (.view 2) (.view 5)) (.op2 .mul (.view 4) (.view 3))), (.op2 .mul (.view 3) (.view 5))])) [.ret (.cst (.bl false))] [],
  .ifs (.op1 .not (.call 19 [(.call 6 [(.var 0), (.var 1)]), (.op2 .sub (.op2 .mul (.view 2) (.view 5)) (.op2 .mul (.view 4) (.view 3))), (.op2 .mul (.view 3) (.view 5))])) [.ret (.cst (.bl false))] [],
  .ifs (.or (.op1 .not (.call 19 [(.call 7 [(.var 0), (.var 1)]), (.op2 .mul (.view 2) (.view 4)), (.op2 .mul (.view 3) (.view 5))])) (.op2 .ne (.op1 .repr (.call 9 [(.var 0), (.var 1)])) (.op1 .repr (.op2 .lt (.op2 .mul (.view 2) (.view 5)) (.op2 .mul (.view 4) (.view 3)))))) [.ret (.cst (.bl false))] [],
  .ifs (.or (.op2 .ne (.callK 5 [1, 0] [(.var 1), (.var 0)]) (.call 5 [(.var 0), (.var 1)])) (.op2 .ne (.callK 6 [1, 0] [(.var 1), (.var 0)]) (.call 6 [(.var 0), (.var 1)]))) [.ret (.cst (.bl false))] [],
  .ifs (.or (.op2 .ne (.callK 7 [1, 0] [(.var 1), (.var 0)]) (.call 7 [(.var 0), (.var 1)])) (.op2 .ne (.callK 9 [1, 0] [(.var 1), (.var 0)]) (.call 9 [(.var 0), (.var 1)]))) [.ret (.cst (.bl false))] [],
  .ifs (.op2 .eq (.view 4) (.cst (.int 0))) [.ret (.op2 .eq (.heard 0 (.call 8 [(.var 0), (.var 1)])) (.cst (.str "zero")))] [],
  .ret (.and (.call 19 [(.call 8 [(.var 0), (.var 1)]), (.op2 .mul (.view 2) (.view 5)), (.op2 .mul (.view 3) (.view 4))]) (.op2 .eq (.callK 8 [1, 0] [(.var 1), (.var 0)]) (.call 8 [(.var 0), (.var 1)])))]
def f24 : Fn := ⟨6, [false, false], b24⟩
def T24 : Gm := (tabA [G0, G1, G2, G3, G4, G5, G6, G7, G8, G9, G10, G11, G12, G13, G14, G15, G16, G17, G18, G19, G20, G21, G22, fun _ _ => none] [A23])
def G24 : List D → Ev.Heap → R D := evFn reprL T24 f24
def s24 : Sig := ⟨"_law_pair_right", 24, [false, false], ["_law_one", "_law_other"], [], true⟩
/-! _law_several_right -/
def b25 : List S := [
  .par [(false, 4), (false, 5), (false, 6), (false, 7)] [(.cst (.int 0)), (.cst (.int 1)), (.cst (.int 1)), (.cst (.int 1))],
  .for (.name 2) (.peek 1) [.par [(false, 4), (false, 5)] [(.op2 .add (.op2 .mul (.view 4) (.op2 .ix (.view 2) (.cst (.int 1)))) (.op2 .mul (.op2 .ix (.view 2) (.cst (.int 0))) (.view 5))), (.op2 .mul (.view 5) (.op2 .ix (.view 2) (.cst (.int 1))))], .par [(false, 6), (false, 7)] [(.op2 .mul (.view 6) (.op2 .ix (.view 2) (.cst (.int 0)))), (.op2 .mul (.view 7) (.op2 .ix (.view 2) (.cst (.int 1))))]],
  .ifs (.or (.op1 .not (.call 19 [(.call 10 [(.var 1)]), (.var 4), (.var 5)])) (.op1 .not (.call 19 [(.call 11 [(.op1 .tuple (.view 1))]), (.var 6), (.var 7)]))) [.ret (.cst (.bl false))] [],
  .ifs (.or (.op2 .ne (.callK 10 [0] [(.op1 .tuple (.op1 .rev (.view 1)))]) (.call 10 [(.var 1)])) (.op2 .ne (.callK 11 [0] [(.op1 .rev (.view 1))]) (.call 11 [(.var 1)]))) [.ret (.cst (.bl false))] [],
  .par [(false, 8), (false, 9)] [(.call 2 [(.var 1)]), (.cst (.int 1))],
  .for (.name 2) (.peek 1) [.asg (.name 9) (.op2 .mul (.op2 .fdiv (.view 9) (.call 16 [(.var 9), (.op2 .ix (.view 2) (.cst (.int 1)))])) (.op2 .ix (.view 2) (.cst (.int 1))))],
  .ifs (.or (.op2 .ne (.op1 .repr (.view 8)) (.op1 .repr (.view 9))) (.op2 .ne (.callK 2 [0] [(.op1 .tuple (.view 1))]) (.view 9))) [.ret (.cst (.bl false))] [],
  .asg (.name 3) (.lc (.ite (.op2 .gt (.call 14 [(.var 0), (.cst (.int 4))]) (.cst (.int 0))) (.tup [(.op1 .abs (.op2 .ix (.view 2) (.cst (.int 0)))), (.op2 .ix (.view 2) (.cst (.int 1)))]) (.tup [(.cst (.int 0)), (.cst (.int 1))])) (.name 2) (.view 1) []),
  .ifs (.op1 .all (.lc (.op2 .eq (.op2 .ix (.view 2) (.cst (.int 0))) (.cst (.int 0))) (.name 2) (.view 3) [])) [.ret (.op2 .eq (.heard 0 (.call 12 [(.var 3)])) (.cst (.str "refused barred")))] [],
  .par [(false, 10), (false, 11), (false, 12)] [(.callK 12 [0] [(.var 3)]), (.cst (.int 0)), (.cst (.int 1))],
  .for (.name 2) (.peek 3) [.par [(false, 11), (false, 12)] [(.op2 .add (.op2 .mul (.view 11) (.op2 .ix (.view 2) (.cst (.int 1)))) (.op2 .mul (.op2 .ix (.view 2) (.cst (.int 0))) (.view 12))), (.op2 .mul (.view 12) (.op2 .ix (.view 2) (.cst (.int 1))))]],
  .ifs (.or (.op1 .not (.op1 .isTup (.view 10))) (.or (.op2 .ne (.op1 .len (.view 10)) (.op1 .len (.view 3))) (.op2 .ne (.call 12 [(.op1 .tuple (.view 3))]) (.view 10)))) [.ret (.cst (.bl false))] [],
  .ret (.op1 .all (.lc (.call 19 [(.var 13), (.op2 .mul (.op2 .ix (.view 2) (.cst (.int 0))) (.view 12)), (.op2 .mul (.op2 .ix (.view 2) (.cst (.int 1))) (.view 11))]) (.tup [(.name 13), (.name 2)]) (.zip (.view 10) (.view 3)) []))]
def f25 : Fn := ⟨14, [false, false], b25⟩
def T25 : Gm := (tabA [G0, G1, G2, G3, G4, G5, G6, G7, G8, G9, G10, G11, G12, G13, G14, G15, G16, G17, G18, G19, G20, G21, G22, fun _ _ => none, G24] [A23])
def G25 : List D → Ev.Heap → R D := evFn reprL T25 f25
def s25 : Sig := ⟨"_law_several_right", 25, [false, false], ["_law_heap_here", "_law_some"], [], true⟩
/-! law -/
def b26 : List S := [
  .asg (.name 1) (.call 13 [(.view 0)]),
  .for (.name 2) (.op1 .range (.op2 .add (.cst (.int 3)) (.op2 .mul (.cst (.int 3)) (.op1 .int (.op2 .gt (.op1 .len (.view 0)) (.cst (.int 2))))))) [.par [(false, 7), (false, 8), (false, 9), (false, 10)] [(.call 20 [(.var 1)]), (.call 20 [(.var 1)]), (.call 21 [(.var 1)]), (.call 21 [(.var 1)])], .ifs (.and (.op2 .ne (.view 8) (.cst (.int 0))) (.or (.op1 .not (.call 19 [(.call 3 [(.var 7), (.var 8)]), (.var 7), (.var 8)])) (.op2 .ne (.callK 3 [1, 0] [(.var 8), (.var 7)]) (.call 3 [(.var 7), (.var 8)])))) [.ret (.cst (.bl false))] [], .par [(true, 3)] [(.lst [(.heard 0 (.call 3 [(.var 7), (.cst (.int 0))]))])], .app 3 (.heard 0 (.call 8 [(.var 9), (.tup [(.cst (.int 0)), (.cst (.int 1))])])), .ifs (.op2 .ne (.view 3) (.lst [(.cst (.str "zero")), (.cst (.str "zero"))])) [.ret (.cst (.bl false))] [], .ifs (.or (.op1 .not (.call 24 [(.var 9), (.var 10)])) (.or (.op1 .not (.call 24 [(.var 9), (.tup [(.op2 .sub (.cst (.int 0)) (.op2 .ix (.view 9) (.cst (.int 0)))), (.op2 .ix (.view 9) (.cst (.int 1)))])])) (.op1 .not (.call 24 [(.var 10), (.call 15 [(.var 1), (.lst [(.var 9), (.var 10), (.tup [(.cst (.int 0)), (.cst (.int 1))]), (.tup [(.cst (.int 1)), (.cst (.int 1))])])])])))) [.ret (.cst (.bl false))] [], .for (.name 4) (.lst [(.var 9), (.call 22 [(.var 1), (.var 9)]), (.call 22 [(.var 1), (.var 10)]), (.var 10)]) [.ifs (.or (.op2 .ne (.op1 .repr (.call 4 [(.var 4)])) (.op1 .repr (.call 18 [(.var 4)]))) (.op2 .ne (.callK 4 [0] [(.var 4)]) (.call 18 [(.var 4)]))) [.ret (.cst (.bl false))] []], .asg (.name 5) (.lc (.call 21 [(.var 1)]) (.name 11) (.op1 .range (.call 14 [(.var 1), (.cst (.int 10))])) []), .asg (.name 6) (.op1 .repr (.view 5)), .ifs (.or (.op1 .not (.call 25 [(.var 1), (.var 5)])) (.op2 .ne (.op1 .repr (.view 5)) (.view 6))) [.ret (.cst (.bl false))] []],
  .ifs (.or (.op2 .ne (.tup [(.cst (.tup [(.int 0), (.int 1)])), (.cst (.tup [(.int 1), (.int 1)]))]) (.tup [(.tup [(.cst (.int 0)), (.cst (.int 1))]), (.tup [(.cst (.int 1)), (.cst (.int 1))])])) (.or (.op2 .ne (.call 3 [(.cst (.int 6)), (.op2 .sub (.cst (.int 0)) (.cst (.int 4)))]) (.tup [(.op2 .sub (.cst (.int 0)) (.cst (.int 3))), (.cst (.int 2))])) (.op2 .ne (.call 3 [(.cst (.int 0)), (.op2 .sub (.cst (.int 0)) (.cst (.int 9)))]) (.tup [(.cst (.int 0)), (.cst (.int 1))])))) [.ret (.cst (.bl false))] [],
  .ifs (.or (.op2 .ne (.call 10 [(.tup [])]) (.tup [(.cst (.int 0)), (.cst (.int 1))])) (.or (.op2 .ne (.call 11 [(.lst [])]) (.tup [(.cst (.int 1)), (.cst (.int 1))])) (.or (.op2 .ne (.call 2 [(.tup [])]) (.cst (.int 1))) (.op2 .ne (.heard 0 (.call 12 [(.tup [])])) (.cst (.str "refused barred")))))) [.ret (.cst (.bl false))] [],
  .ret (.and (.op2 .eq (.call 12 [(.tup [(.tup [(.cst (.int 1)), (.cst (.int 2))]), (.tup [(.cst (.int 1)), (.cst (.int 3))]), (.tup [(.cst (.int 0)), (.cst (.int 1))])])]) (.tup [(.tup [(.cst (.int 3)), (.cst (.int 5))]), (.tup [(.cst (.int 2)), (.cst (.int 5))]), (.tup [(.cst (.int 0)), (.cst (.int 1))])])) (.and (.op2 .is (.call 9 [(.tup [(.cst (.int 1)), (.cst (.int 3))]), (.tup [(.cst (.int 2)), (.cst (.int 5))])]) (.cst (.bl true))) (.op2 .eq (.call 6 [(.tup [(.cst (.int 1)), (.cst (.int 2))]), (.tup [(.cst (.int 2)), (.cst (.int 3))])]) (.tup [(.op2 .sub (.cst (.int 0)) (.cst (.int 1))), (.cst (.int 6))]))))]
def f26 : Fn := ⟨12, [true], b26⟩
def T26 : Gm := (tabA [G0, G1, G2, G3, G4, G5, G6, G7, G8, G9, G10, G11, G12, G13, G14, G15, G16, G17, G18, G19, G20, G21, G22, fun _ _ => none, G24, G25] [A23])
def G26 : List D → Ev.Heap → R D := evFn reprL T26 f26
def s26 : Sig := ⟨"law", 26, [true], ["_law_script"], [], true⟩
def blts : List Str := ["abs", "all", "bool", "int", "isinstance", "len", "range", "repr", "sum", "tuple", "zip"]
def cons : List (Str × D) := [("ZERO", (.tup [(.int 0), (.int 1)])), ("ONE", (.tup [(.int 1), (.int 1)]))]
def er0 : ErrSig := ⟨"InvalidNumber", 0, ["word"], ["self", "word"]⟩
def er1 : ErrSig := ⟨"Refused", 1, ["word"], ["self", "word"]⟩
def hs23 : HearSig := ⟨"_law_heard", 0⟩
def xns : List (Str × List Nat × List Nat) := [("Refused", [1], [0]), ("NetError", [0, 1], []), ("InvalidNumber", [0], [1])]
def xfs : List (List Nat × Str) := [([1], "word"), ([0], "word")]
def k0 : Ck := { N := ["value"], sc := defScope (top 5), fn := fun _ => true, fns := [], cons := cons, blts := blts, quiet := false, calm := true, errs := [], xns := xns, xfs := xfs, held := false, lv := 0, hears := [], lam := false }
theorem sc0 : FnScope k0.N ["value"] (defScope (top 5)) := ⟨rfl, rfl, rfl, by decide +kernel, rfl, by decide +kernel, by decide +kernel⟩
theorem ch0 : chkSs k0 f0.body (defBody (top 5)) = true := by decide +kernel
def k1 : Ck := { N := ["one", "other"], sc := defScope (top 9), fn := fun _ => true, fns := [], cons := cons, blts := blts, quiet := false, calm := true, errs := [], xns := xns, xfs := xfs, held := false, lv := 0, hears := [], lam := false }
theorem sc1 : FnScope k1.N ["one", "other"] (defScope (top 9)) := ⟨rfl, rfl, rfl, by decide +kernel, rfl, by decide +kernel, by decide +kernel⟩
theorem ch1 : chkSs k1 f1.body (defBody (top 9)) = true := by decide +kernel
def k2 : Ck := { N := ["fractions", "found", "top", "bottom"], sc := defScope (top 10), fn := fun _ => true, fns := [s1], cons := cons, blts := blts, quiet := false, calm := true, errs := [], xns := xns, xfs := xfs, held := false, lv := 3, hears := [], lam := false }
theorem sc2 : FnScope k2.N ["fractions"] (defScope (top 10)) := ⟨rfl, rfl, rfl, by decide +kernel, rfl, by decide +kernel, by decide +kernel⟩
theorem ch2 : chkSs k2 f2.body (defBody (top 10)) = true := by decide +kernel
def k3 : Ck := { N := ["top", "bottom", "factor"], sc := defScope (top 11), fn := fun _ => true, fns := [s1], cons := cons, blts := blts, quiet := false, calm := true, errs := [er0], xns := xns, xfs := xfs, held := false, lv := 3, hears := [], lam := false }
theorem sc3 : FnScope k3.N ["top", "bottom"] (defScope (top 11)) := ⟨rfl, rfl, rfl, by decide +kernel, rfl, by decide +kernel, by decide +kernel⟩
theorem ch3 : chkSs k3 f3.body (defBody (top 11)) = true := by decide +kernel
def k4 : Ck := { N := ["value", "item"], sc := defScope (top 12), fn := fun _ => true, fns := [s0, s1], cons := cons, blts := blts, quiet := false, calm := true, errs := [], xns := xns, xfs := xfs, held := false, lv := 3, hears := [], lam := false }
theorem sc4 : FnScope k4.N ["value"] (defScope (top 12)) := ⟨rfl, rfl, rfl, by decide +kernel, rfl, by decide +kernel, by decide +kernel⟩
theorem ch4 : chkSs k4 f4.body (defBody (top 12)) = true := by decide +kernel
def k5 : Ck := { N := ["one", "other"], sc := defScope (top 13), fn := fun _ => true, fns := [s3], cons := cons, blts := blts, quiet := false, calm := true, errs := [], xns := xns, xfs := xfs, held := false, lv := 6, hears := [], lam := false }
theorem sc5 : FnScope k5.N ["one", "other"] (defScope (top 13)) := ⟨rfl, rfl, rfl, by decide +kernel, rfl, by decide +kernel, by decide +kernel⟩
theorem ch5 : chkSs k5 f5.body (defBody (top 13)) = true := by decide +kernel
def k6 : Ck := { N := ["one", "other"], sc := defScope (top 14), fn := fun _ => true, fns := [s3], cons := cons, blts := blts, quiet := false, calm := true, errs := [], xns := xns, xfs := xfs, held := false, lv := 6, hears := [], lam := false }
theorem sc6 : FnScope k6.N ["one", "other"] (defScope (top 14)) := ⟨rfl, rfl, rfl, by decide +kernel, rfl, by decide +kernel, by decide +kernel⟩
theorem ch6 : chkSs k6 f6.body (defBody (top 14)) = true := by decide +kernel
def k7 : Ck := { N := ["one", "other"], sc := defScope (top 15), fn := fun _ => true, fns := [s3], cons := cons, blts := blts, quiet := false, calm := true, errs := [], xns := xns, xfs := xfs, held := false, lv := 6, hears := [], lam := false }
theorem sc7 : FnScope k7.N ["one", "other"] (defScope (top 15)) := ⟨rfl, rfl, rfl, by decide +kernel, rfl, by decide +kernel, by decide +kernel⟩
theorem ch7 : chkSs k7 f7.body (defBody (top 15)) = true := by decide +kernel
def k8 : Ck := { N := ["one", "other"], sc := defScope (top 16), fn := fun _ => true, fns := [s3], cons := cons, blts := blts, quiet := false, calm := true, errs := [], xns := xns, xfs := xfs, held := false, lv := 6, hears := [], lam := false }
theorem sc8 : FnScope k8.N ["one", "other"] (defScope (top 16)) := ⟨rfl, rfl, rfl, by decide +kernel, rfl, by decide +kernel, by decide +kernel⟩
theorem ch8 : chkSs k8 f8.body (defBody (top 16)) = true := by decide +kernel
def k9 : Ck := { N := ["one", "other"], sc := defScope (top 17), fn := fun _ => true, fns := [], cons := cons, blts := blts, quiet := false, calm := true, errs := [], xns := xns, xfs := xfs, held := false, lv := 0, hears := [], lam := false }
theorem sc9 : FnScope k9.N ["one", "other"] (defScope (top 17)) := ⟨rfl, rfl, rfl, by decide +kernel, rfl, by decide +kernel, by decide +kernel⟩
theorem ch9 : chkSs k9 f9.body (defBody (top 17)) = true := by decide +kernel
def k10 : Ck := { N := ["fractions", "bottom", "top", "own"], sc := defScope (top 18), fn := fun _ => true, fns := [s2, s3], cons := cons, blts := blts, quiet := false, calm := true, errs := [], xns := xns, xfs := xfs, held := false, lv := 6, hears := [], lam := false }
theorem sc10 : FnScope k10.N ["fractions"] (defScope (top 18)) := ⟨rfl, rfl, rfl, by decide +kernel, rfl, by decide +kernel, by decide +kernel⟩
theorem ch10 : chkSs k10 f10.body (defBody (top 18)) = true := by decide +kernel
def k11 : Ck := { N := ["fractions", "found", "fraction"], sc := defScope (top 19), fn := fun _ => true, fns := [s7], cons := cons, blts := blts, quiet := false, calm := true, errs := [], xns := xns, xfs := xfs, held := false, lv := 9, hears := [], lam := false }
theorem sc11 : FnScope k11.N ["fractions"] (defScope (top 19)) := ⟨rfl, rfl, rfl, by decide +kernel, rfl, by decide +kernel, by decide +kernel⟩
theorem ch11 : chkSs k11 f11.body (defBody (top 19)) = true := by decide +kernel
def k12 : Ck := { N := ["weights", "total", "weight"], sc := defScope (top 20), fn := fun _ => true, fns := [s8, s10], cons := cons, blts := blts, quiet := false, calm := true, errs := [er1], xns := xns, xfs := xfs, held := false, lv := 9, hears := [], lam := false }
theorem sc12 : FnScope k12.N ["weights"] (defScope (top 20)) := ⟨rfl, rfl, rfl, by decide +kernel, rfl, by decide +kernel, by decide +kernel⟩
theorem ch12 : chkSs k12 f12.body (defBody (top 20)) = true := by decide +kernel
def k13 : Ck := { N := ["_law_script", "_law_cell", "_law_cells", "_law_stir"], sc := defScope (top 22), fn := fun _ => true, fns := [], cons := cons, blts := blts, quiet := true, calm := true, errs := [], xns := xns, xfs := xfs, held := false, lv := 0, hears := [], lam := false }
theorem sc13 : FnScope k13.N ["_law_script"] (defScope (top 22)) := ⟨rfl, rfl, rfl, by decide +kernel, rfl, by decide +kernel, by decide +kernel⟩
theorem ch13 : chkSs k13 f13.body (defBody (top 22)) = true := by decide +kernel
def k14 : Ck := { N := ["_law_heap_here", "_law_many", "_law_rest"], sc := defScope (top 23), fn := fun _ => true, fns := [], cons := cons, blts := blts, quiet := true, calm := true, errs := [], xns := xns, xfs := xfs, held := false, lv := 0, hears := [], lam := false }
theorem sc14 : FnScope k14.N ["_law_heap_here", "_law_many"] (defScope (top 23)) := ⟨rfl, rfl, rfl, by decide +kernel, rfl, by decide +kernel, by decide +kernel⟩
theorem ch14 : chkSs k14 f14.body (defBody (top 23)) = true := by decide +kernel
def k15 : Ck := { N := ["_law_heap_here", "_law_some"], sc := defScope (top 24), fn := fun _ => true, fns := [s14], cons := cons, blts := blts, quiet := true, calm := true, errs := [], xns := xns, xfs := xfs, held := false, lv := 3, hears := [], lam := false }
theorem sc15 : FnScope k15.N ["_law_heap_here", "_law_some"] (defScope (top 24)) := ⟨rfl, rfl, rfl, by decide +kernel, rfl, by decide +kernel, by decide +kernel⟩
theorem ch15 : chkSs k15 f15.body (defBody (top 24)) = true := by decide +kernel
def k16 : Ck := { N := ["_law_one", "_law_other", "_law_turn"], sc := defScope (top 25), fn := fun _ => true, fns := [], cons := cons, blts := blts, quiet := true, calm := true, errs := [], xns := xns, xfs := xfs, held := false, lv := 0, hears := [], lam := false }
theorem sc16 : FnScope k16.N ["_law_one", "_law_other"] (defScope (top 25)) := ⟨rfl, rfl, rfl, by decide +kernel, rfl, by decide +kernel, by decide +kernel⟩
theorem ch16 : chkSs k16 f16.body (defBody (top 25)) = true := by decide +kernel
def k17 : Ck := { N := ["_law_value"], sc := defScope (top 26), fn := fun _ => true, fns := [], cons := cons, blts := blts, quiet := true, calm := true, errs := [], xns := xns, xfs := xfs, held := false, lv := 0, hears := [], lam := false }
theorem sc17 : FnScope k17.N ["_law_value"] (defScope (top 26)) := ⟨rfl, rfl, rfl, by decide +kernel, rfl, by decide +kernel, by decide +kernel⟩
theorem ch17 : chkSs k17 f17.body (defBody (top 26)) = true := by decide +kernel
def k18 : Ck := { N := ["_law_value"], sc := defScope (top 27), fn := fun _ => true, fns := [s16, s17], cons := cons, blts := blts, quiet := true, calm := true, errs := [], xns := xns, xfs := xfs, held := false, lv := 3, hears := [], lam := false }
theorem sc18 : FnScope k18.N ["_law_value"] (defScope (top 27)) := ⟨rfl, rfl, rfl, by decide +kernel, rfl, by decide +kernel, by decide +kernel⟩
theorem ch18 : chkSs k18 f18.body (defBody (top 27)) = true := by decide +kernel
def k19 : Ck := { N := ["_law_value", "_law_top", "_law_bottom"], sc := defScope (top 28), fn := fun _ => true, fns := [s18], cons := cons, blts := blts, quiet := true, calm := true, errs := [], xns := xns, xfs := xfs, held := false, lv := 6, hears := [], lam := false }
theorem sc19 : FnScope k19.N ["_law_value", "_law_top", "_law_bottom"] (defScope (top 28)) := ⟨rfl, rfl, rfl, by decide +kernel, rfl, by decide +kernel, by decide +kernel⟩
theorem ch19 : chkSs k19 f19.body (defBody (top 28)) = true := by decide +kernel
def k20 : Ck := { N := ["_law_heap_here", "_law_size"], sc := defScope (top 29), fn := fun _ => true, fns := [s14, s15], cons := cons, blts := blts, quiet := true, calm := true, errs := [], xns := xns, xfs := xfs, held := false, lv := 6, hears := [], lam := false }
theorem sc20 : FnScope k20.N ["_law_heap_here"] (defScope (top 29)) := ⟨rfl, rfl, rfl, by decide +kernel, rfl, by decide +kernel, by decide +kernel⟩
theorem ch20 : chkSs k20 f20.body (defBody (top 29)) = true := by decide +kernel
def k21 : Ck := { N := ["_law_heap_here", "_law_shared", "_law_top", "_law_bottom"], sc := defScope (top 30), fn := fun _ => true, fns := [s16, s20], cons := cons, blts := blts, quiet := true, calm := true, errs := [], xns := xns, xfs := xfs, held := false, lv := 9, hears := [], lam := false }
theorem sc21 : FnScope k21.N ["_law_heap_here"] (defScope (top 30)) := ⟨rfl, rfl, rfl, by decide +kernel, rfl, by decide +kernel, by decide +kernel⟩
theorem ch21 : chkSs k21 f21.body (defBody (top 30)) = true := by decide +kernel
def k22 : Ck := { N := ["_law_heap_here", "_law_one", "_law_times", "_law_some"], sc := defScope (top 31), fn := fun _ => true, fns := [s14, s15], cons := cons, blts := blts, quiet := true, calm := true, errs := [], xns := xns, xfs := xfs, held := false, lv := 6, hears := [], lam := false }
theorem sc22 : FnScope k22.N ["_law_heap_here", "_law_one"] (defScope (top 31)) := ⟨rfl, rfl, rfl, by decide +kernel, rfl, by decide +kernel, by decide +kernel⟩
theorem ch22 : chkSs k22 f22.body (defBody (top 31)) = true := by decide +kernel
def k23 : Ck := { N := ["_law_action", "error"], sc := defScope (top 32), fn := fun _ => true, fns := [], cons := cons, blts := blts, quiet := false, calm := true, errs := [], xns := xns, xfs := xfs, held := false, lv := 0, hears := [], lam := false }
theorem sc23 : FnScope k23.N ["_law_action"] (defScope (top 32)) := ⟨rfl, rfl, rfl, by decide +kernel, rfl, by decide +kernel, by decide +kernel⟩
theorem ch23 : chkHear k23 "_law_action" f23.body (defBody (top 32)) = true := by decide +kernel
def k24 : Ck := { N := ["_law_one", "_law_other", "_law_top", "_law_bottom", "_law_above", "_law_below"], sc := defScope (top 33), fn := fun _ => true, fns := [s5, s6, s7, s8, s9, s19], cons := cons, blts := blts, quiet := true, calm := true, errs := [], xns := xns, xfs := xfs, held := false, lv := 9, hears := [hs23], lam := true }
theorem sc24 : FnScope k24.N ["_law_one", "_law_other"] (defScope (top 33)) := ⟨rfl, rfl, rfl, by decide +kernel, rfl, by decide +kernel, by decide +kernel⟩
theorem ch24 : chkSs k24 f24.body (defBody (top 33)) = true := by decide +kernel
def k25 : Ck := { N := ["_law_heap_here", "_law_some", "_law_one", "_law_weights", "_law_top", "_law_bottom", "_law_above", "_law_below", "_law_told", "_law_least", "_law_found", "_law_total", "_law_under", "_law_mine"], sc := defScope (top 34), fn := fun _ => true, fns := [s2, s10, s11, s12, s14, s16, s19], cons := cons, blts := blts, quiet := true, calm := true, errs := [], xns := xns, xfs := xfs, held := false, lv := 12, hears := [hs23], lam := true }
theorem sc25 : FnScope k25.N ["_law_heap_here", "_law_some"] (defScope (top 34)) := ⟨rfl, rfl, rfl, by decide +kernel, rfl, by decide +kernel, by decide +kernel⟩
theorem ch25 : chkSs k25 f25.body (defBody (top 34)) = true := by decide +kernel
def k26 : Ck := { N := ["_law_script", "_law_heap_here", "_law_turn", "_law_heard_here", "_law_value", "_law_some", "_law_kept", "_law_top", "_law_bottom", "_law_one", "_law_other", "_law_again"], sc := defScope (top 35), fn := fun _ => true, fns := [s2, s3, s4, s6, s8, s9, s10, s11, s12, s13, s14, s15, s18, s19, s20, s21, s22, s24, s25], cons := cons, blts := blts, quiet := true, calm := true, errs := [], xns := xns, xfs := xfs, held := false, lv := 15, hears := [hs23], lam := true }
theorem sc26 : FnScope k26.N ["_law_script"] (defScope (top 35)) := ⟨rfl, rfl, rfl, by decide +kernel, rfl, by decide +kernel, by decide +kernel⟩
theorem ch26 : chkSs k26 f26.body (defBody (top 35)) = true := by decide +kernel
section
variable [TabList]
structure Mo (K : PySem.W.Frag) (mg : Str → Option Value) : Prop where
  e0 : ∃ f fd, Fun K "is_integer" "is_integer" (top 5) f fd ∧ mg "is_integer" = some (.ref f) ∧ (∀ (s : Shared) (us : List Value), us.length = s0.ps.length → BindsTo s fd ⟨us, []⟩ (s0.ps.zip us)) ∧ (∀ q ∈ s0.kbl, KB K fd s0.ps q.1 q.2.1 q.2.2)
  e1 : ∃ f fd, Fun K "shared_divisor" "shared_divisor" (top 9) f fd ∧ mg "shared_divisor" = some (.ref f) ∧ (∀ (s : Shared) (us : List Value), us.length = s1.ps.length → BindsTo s fd ⟨us, []⟩ (s1.ps.zip us)) ∧ (∀ q ∈ s1.kbl, KB K fd s1.ps q.1 q.2.1 q.2.2)
  e2 : ∃ f fd, Fun K "common_bottom" "common_bottom" (top 10) f fd ∧ mg "common_bottom" = some (.ref f) ∧ (∀ (s : Shared) (us : List Value), us.length = s2.ps.length → BindsTo s fd ⟨us, []⟩ (s2.ps.zip us)) ∧ (∀ q ∈ s2.kbl, KB K fd s2.ps q.1 q.2.1 q.2.2)
  e3 : ∃ f fd, Fun K "fraction_of" "fraction_of" (top 11) f fd ∧ mg "fraction_of" = some (.ref f) ∧ (∀ (s : Shared) (us : List Value), us.length = s3.ps.length → BindsTo s fd ⟨us, []⟩ (s3.ps.zip us)) ∧ (∀ q ∈ s3.kbl, KB K fd s3.ps q.1 q.2.1 q.2.2)
  e4 : ∃ f fd, Fun K "is_fraction" "is_fraction" (top 12) f fd ∧ mg "is_fraction" = some (.ref f) ∧ (∀ (s : Shared) (us : List Value), us.length = s4.ps.length → BindsTo s fd ⟨us, []⟩ (s4.ps.zip us)) ∧ (∀ q ∈ s4.kbl, KB K fd s4.ps q.1 q.2.1 q.2.2)
  e5 : ∃ f fd, Fun K "added" "added" (top 13) f fd ∧ mg "added" = some (.ref f) ∧ (∀ (s : Shared) (us : List Value), us.length = s5.ps.length → BindsTo s fd ⟨us, []⟩ (s5.ps.zip us)) ∧ (∀ q ∈ s5.kbl, KB K fd s5.ps q.1 q.2.1 q.2.2)
  e6 : ∃ f fd, Fun K "taken" "taken" (top 14) f fd ∧ mg "taken" = some (.ref f) ∧ (∀ (s : Shared) (us : List Value), us.length = s6.ps.length → BindsTo s fd ⟨us, []⟩ (s6.ps.zip us)) ∧ (∀ q ∈ s6.kbl, KB K fd s6.ps q.1 q.2.1 q.2.2)
  e7 : ∃ f fd, Fun K "timed" "timed" (top 15) f fd ∧ mg "timed" = some (.ref f) ∧ (∀ (s : Shared) (us : List Value), us.length = s7.ps.length → BindsTo s fd ⟨us, []⟩ (s7.ps.zip us)) ∧ (∀ q ∈ s7.kbl, KB K fd s7.ps q.1 q.2.1 q.2.2)
  e8 : ∃ f fd, Fun K "divided" "divided" (top 16) f fd ∧ mg "divided" = some (.ref f) ∧ (∀ (s : Shared) (us : List Value), us.length = s8.ps.length → BindsTo s fd ⟨us, []⟩ (s8.ps.zip us)) ∧ (∀ q ∈ s8.kbl, KB K fd s8.ps q.1 q.2.1 q.2.2)
  e9 : ∃ f fd, Fun K "is_less" "is_less" (top 17) f fd ∧ mg "is_less" = some (.ref f) ∧ (∀ (s : Shared) (us : List Value), us.length = s9.ps.length → BindsTo s fd ⟨us, []⟩ (s9.ps.zip us)) ∧ (∀ q ∈ s9.kbl, KB K fd s9.ps q.1 q.2.1 q.2.2)
  e10 : ∃ f fd, Fun K "total_of_all" "total_of_all" (top 18) f fd ∧ mg "total_of_all" = some (.ref f) ∧ (∀ (s : Shared) (us : List Value), us.length = s10.ps.length → BindsTo s fd ⟨us, []⟩ (s10.ps.zip us)) ∧ (∀ q ∈ s10.kbl, KB K fd s10.ps q.1 q.2.1 q.2.2)
  e11 : ∃ f fd, Fun K "product_of_all" "product_of_all" (top 19) f fd ∧ mg "product_of_all" = some (.ref f) ∧ (∀ (s : Shared) (us : List Value), us.length = s11.ps.length → BindsTo s fd ⟨us, []⟩ (s11.ps.zip us)) ∧ (∀ q ∈ s11.kbl, KB K fd s11.ps q.1 q.2.1 q.2.2)
  e12 : ∃ f fd, Fun K "scaled_to_one" "scaled_to_one" (top 20) f fd ∧ mg "scaled_to_one" = some (.ref f) ∧ (∀ (s : Shared) (us : List Value), us.length = s12.ps.length → BindsTo s fd ⟨us, []⟩ (s12.ps.zip us)) ∧ (∀ q ∈ s12.kbl, KB K fd s12.ps q.1 q.2.1 q.2.2)
  e13 : ∃ f fd, Fun K "_law_heap" "_law_heap" (top 22) f fd ∧ mg "_law_heap" = some (.ref f) ∧ (∀ (s : Shared) (us : List Value), us.length = s13.ps.length → BindsTo s fd ⟨us, []⟩ (s13.ps.zip us)) ∧ (∀ q ∈ s13.kbl, KB K fd s13.ps q.1 q.2.1 q.2.2)
  e14 : ∃ f fd, Fun K "_law_draw" "_law_draw" (top 23) f fd ∧ mg "_law_draw" = some (.ref f) ∧ (∀ (s : Shared) (us : List Value), us.length = s14.ps.length → BindsTo s fd ⟨us, []⟩ (s14.ps.zip us)) ∧ (∀ q ∈ s14.kbl, KB K fd s14.ps q.1 q.2.1 q.2.2)
  e15 : ∃ f fd, Fun K "_law_pick" "_law_pick" (top 24) f fd ∧ mg "_law_pick" = some (.ref f) ∧ (∀ (s : Shared) (us : List Value), us.length = s15.ps.length → BindsTo s fd ⟨us, []⟩ (s15.ps.zip us)) ∧ (∀ q ∈ s15.kbl, KB K fd s15.ps q.1 q.2.1 q.2.2)
  e16 : ∃ f fd, Fun K "_law_divisor" "_law_divisor" (top 25) f fd ∧ mg "_law_divisor" = some (.ref f) ∧ (∀ (s : Shared) (us : List Value), us.length = s16.ps.length → BindsTo s fd ⟨us, []⟩ (s16.ps.zip us)) ∧ (∀ q ∈ s16.kbl, KB K fd s16.ps q.1 q.2.1 q.2.2)
  e17 : ∃ f fd, Fun K "_law_is_whole" "_law_is_whole" (top 26) f fd ∧ mg "_law_is_whole" = some (.ref f) ∧ (∀ (s : Shared) (us : List Value), us.length = s17.ps.length → BindsTo s fd ⟨us, []⟩ (s17.ps.zip us)) ∧ (∀ q ∈ s17.kbl, KB K fd s17.ps q.1 q.2.1 q.2.2)
  e18 : ∃ f fd, Fun K "_law_is_fraction" "_law_is_fraction" (top 27) f fd ∧ mg "_law_is_fraction" = some (.ref f) ∧ (∀ (s : Shared) (us : List Value), us.length = s18.ps.length → BindsTo s fd ⟨us, []⟩ (s18.ps.zip us)) ∧ (∀ q ∈ s18.kbl, KB K fd s18.ps q.1 q.2.1 q.2.2)
  e19 : ∃ f fd, Fun K "_law_equal" "_law_equal" (top 28) f fd ∧ mg "_law_equal" = some (.ref f) ∧ (∀ (s : Shared) (us : List Value), us.length = s19.ps.length → BindsTo s fd ⟨us, []⟩ (s19.ps.zip us)) ∧ (∀ q ∈ s19.kbl, KB K fd s19.ps q.1 q.2.1 q.2.2)
  e20 : ∃ f fd, Fun K "_law_integer" "_law_integer" (top 29) f fd ∧ mg "_law_integer" = some (.ref f) ∧ (∀ (s : Shared) (us : List Value), us.length = s20.ps.length → BindsTo s fd ⟨us, []⟩ (s20.ps.zip us)) ∧ (∀ q ∈ s20.kbl, KB K fd s20.ps q.1 q.2.1 q.2.2)
  e21 : ∃ f fd, Fun K "_law_part" "_law_part" (top 30) f fd ∧ mg "_law_part" = some (.ref f) ∧ (∀ (s : Shared) (us : List Value), us.length = s21.ps.length → BindsTo s fd ⟨us, []⟩ (s21.ps.zip us)) ∧ (∀ q ∈ s21.kbl, KB K fd s21.ps q.1 q.2.1 q.2.2)
  e22 : ∃ f fd, Fun K "_law_odd" "_law_odd" (top 31) f fd ∧ mg "_law_odd" = some (.ref f) ∧ (∀ (s : Shared) (us : List Value), us.length = s22.ps.length → BindsTo s fd ⟨us, []⟩ (s22.ps.zip us)) ∧ (∀ q ∈ s22.kbl, KB K fd s22.ps q.1 q.2.1 q.2.2)
  e23 : ∃ f oc od dV kV dc pm an cd ct sl, mg "_law_heard" = some (.ref f) ∧ PySem.W.keepIn K (.ref f) = true ∧ K.lookup f = some ⟨oc, od, .func (PySem.W.fnOf "_law_heard" "_law_heard" (defArgs (top 32)) (defBody (top 32)) (defScope (top 32)) dV kV dc pm an cd ct), sl⟩ ∧ PySem.W.codeIn K cd "_law_heard" = true ∧ L2.Binds K (PySem.W.fnOf "_law_heard" "_law_heard" (defArgs (top 32)) (defBody (top 32)) (defScope (top 32)) dV kV dc pm an cd ct) ["_law_action"] []
  e24 : ∃ f fd, Fun K "_law_pair_right" "_law_pair_right" (top 33) f fd ∧ mg "_law_pair_right" = some (.ref f) ∧ (∀ (s : Shared) (us : List Value), us.length = s24.ps.length → BindsTo s fd ⟨us, []⟩ (s24.ps.zip us)) ∧ (∀ q ∈ s24.kbl, KB K fd s24.ps q.1 q.2.1 q.2.2) ∧ ∃ c P, fd.code = .ref c ∧ PySem.W.codeHdIn K c P = true ∧ (P, (("_law_pair_right" : Str) ++ ".<locals>." ++ "<lambda>")) ∈ TabList.T ∧ ∀ p ∈ TabList.T, p.1 = P → p.2 = ("_law_pair_right" : Str) ++ ".<locals>." ++ "<lambda>"
  e25 : ∃ f fd, Fun K "_law_several_right" "_law_several_right" (top 34) f fd ∧ mg "_law_several_right" = some (.ref f) ∧ (∀ (s : Shared) (us : List Value), us.length = s25.ps.length → BindsTo s fd ⟨us, []⟩ (s25.ps.zip us)) ∧ (∀ q ∈ s25.kbl, KB K fd s25.ps q.1 q.2.1 q.2.2) ∧ ∃ c P, fd.code = .ref c ∧ PySem.W.codeHdIn K c P = true ∧ (P, (("_law_several_right" : Str) ++ ".<locals>." ++ "<lambda>")) ∈ TabList.T ∧ ∀ p ∈ TabList.T, p.1 = P → p.2 = ("_law_several_right" : Str) ++ ".<locals>." ++ "<lambda>"
  e26 : ∃ f fd, Fun K "law" "law" (top 35) f fd ∧ mg "law" = some (.ref f) ∧ (∀ (s : Shared) (us : List Value), us.length = s26.ps.length → BindsTo s fd ⟨us, []⟩ (s26.ps.zip us)) ∧ (∀ q ∈ s26.kbl, KB K fd s26.ps q.1 q.2.1 q.2.2) ∧ ∃ c P, fd.code = .ref c ∧ PySem.W.codeHdIn K c P = true ∧ (P, (("law" : Str) ++ ".<locals>." ++ "<lambda>")) ∈ TabList.T ∧ ∀ p ∈ TabList.T, p.1 = P → p.2 = ("law" : Str) ++ ".<locals>." ++ "<lambda>"
  bl : ∀ x ∈ blts, mg x = none
  co : ∀ p ∈ cons, ∃ v u, mg p.1 = some u ∧ RelV v u ∧ ∀ Fb m H, Rep K Fb m H v p.2
  er0 : ∀ (w : World) (base : PySem.Heap) (k : Nat), 2 ≤ k → ErrAt PySem.Challenge.pw_allworlds_k01_whole_fractions w K mg base k er0
  er1 : ∀ (w : World) (base : PySem.Heap) (k : Nat), 2 ≤ k → ErrAt PySem.Challenge.pw_allworlds_k01_whole_fractions w K mg base k er1
  xn : ∀ p ∈ xns, XnAt K mg p.1 p.2.1 p.2.2
  xf : ∀ p ∈ xfs, XfAt K p.1 p.2
variable {K : PySem.W.Frag} {mg : Str → Option Value}
theorem ok0 (M : Mo K mg) : ∃ f fd, (∀ (w : World) (base : PySem.Heap), K.In base → base.Ns mainGlobals mg → Tops base mg (TabList.T.map (·.1)) → FnG PySem.Challenge.pw_allworlds_k01_whole_fractions w K mg base (L2.CX PySem.Challenge.pw_allworlds_k01_whole_fractions w) false 3 f fd s0.ps (spF K G0 s0.modes)) ∧ mg "is_integer" = some (.ref f) ∧ PySem.W.keepIn K (.ref f) = true ∧ (∀ (s : Shared) (us : List Value), us.length = s0.ps.length → BindsTo s fd ⟨us, []⟩ (s0.ps.zip us)) ∧ ∀ q ∈ s0.kbl, KB K fd s0.ps q.1 q.2.1 q.2.2 := by
  obtain ⟨f, fd, F, a, b, kb⟩ := M.e0
  refine ⟨f, fd, fun w base X Gb T => def_ok (ck := k0) (fn := f0) (Γ := T0) F sc0 rfl rfl rfl rfl (by decide) rfl (by decide) M.bl ?_ M.co ((fun s hs => nomatch hs)) M.xn M.xf rfl ((fun s hs => nomatch hs)) (fun z => by cases z) ch0, a, F.kp, b, kb⟩
  exact fun s hs => by cases hs
theorem ok1 (M : Mo K mg) : ∃ f fd, (∀ (w : World) (base : PySem.Heap), K.In base → base.Ns mainGlobals mg → Tops base mg (TabList.T.map (·.1)) → FnG PySem.Challenge.pw_allworlds_k01_whole_fractions w K mg base (L2.CX PySem.Challenge.pw_allworlds_k01_whole_fractions w) false 3 f fd s1.ps (spF K G1 s1.modes)) ∧ mg "shared_divisor" = some (.ref f) ∧ PySem.W.keepIn K (.ref f) = true ∧ (∀ (s : Shared) (us : List Value), us.length = s1.ps.length → BindsTo s fd ⟨us, []⟩ (s1.ps.zip us)) ∧ ∀ q ∈ s1.kbl, KB K fd s1.ps q.1 q.2.1 q.2.2 := by
  obtain ⟨f, fd, F, a, b, kb⟩ := M.e1
  refine ⟨f, fd, fun w base X Gb T => def_ok (ck := k1) (fn := f1) (Γ := T1) F sc1 rfl rfl rfl rfl (by decide) rfl (by decide) M.bl ?_ M.co ((fun s hs => nomatch hs)) M.xn M.xf rfl ((fun s hs => nomatch hs)) (fun z => by cases z) ch1, a, F.kp, b, kb⟩
  exact fun s hs => by cases hs
theorem ok2 (M : Mo K mg) : ∃ f fd, (∀ (w : World) (base : PySem.Heap), K.In base → base.Ns mainGlobals mg → Tops base mg (TabList.T.map (·.1)) → FnG PySem.Challenge.pw_allworlds_k01_whole_fractions w K mg base (L2.CX PySem.Challenge.pw_allworlds_k01_whole_fractions w) false 6 f fd s2.ps (spF K G2 s2.modes)) ∧ mg "common_bottom" = some (.ref f) ∧ PySem.W.keepIn K (.ref f) = true ∧ (∀ (s : Shared) (us : List Value), us.length = s2.ps.length → BindsTo s fd ⟨us, []⟩ (s2.ps.zip us)) ∧ ∀ q ∈ s2.kbl, KB K fd s2.ps q.1 q.2.1 q.2.2 := by
  obtain ⟨f, fd, F, a, b, kb⟩ := M.e2
  refine ⟨f, fd, fun w base X Gb T => def_ok (ck := k2) (fn := f2) (Γ := T2) F sc2 rfl rfl rfl rfl (by decide) rfl (by decide) M.bl ?_ M.co ((fun s hs => nomatch hs)) M.xn M.xf rfl ((fun s hs => nomatch hs)) (fun z => by cases z) ch2, a, F.kp, b, kb⟩
  refine List.forall_mem_cons.mpr ⟨let ⟨f, fd, F, a, kp, b, kb⟩ := ok1 M; ⟨3, f, fd, F w base X Gb T, by decide, a, kp, binds_of b, kb⟩, ?_⟩
  exact fun s hs => by cases hs
theorem ok3 (M : Mo K mg) : ∃ f fd, (∀ (w : World) (base : PySem.Heap), K.In base → base.Ns mainGlobals mg → Tops base mg (TabList.T.map (·.1)) → FnG PySem.Challenge.pw_allworlds_k01_whole_fractions w K mg base (L2.CX PySem.Challenge.pw_allworlds_k01_whole_fractions w) false 6 f fd s3.ps (spF K G3 s3.modes)) ∧ mg "fraction_of" = some (.ref f) ∧ PySem.W.keepIn K (.ref f) = true ∧ (∀ (s : Shared) (us : List Value), us.length = s3.ps.length → BindsTo s fd ⟨us, []⟩ (s3.ps.zip us)) ∧ ∀ q ∈ s3.kbl, KB K fd s3.ps q.1 q.2.1 q.2.2 := by
  obtain ⟨f, fd, F, a, b, kb⟩ := M.e3
  refine ⟨f, fd, fun w base X Gb T => def_ok (ck := k3) (fn := f3) (Γ := T3) F sc3 rfl rfl rfl rfl (by decide) rfl (by decide) M.bl ?_ M.co (List.forall_mem_cons.mpr ⟨M.er0 w base _ (by decide), (fun s hs => nomatch hs)⟩) M.xn M.xf rfl ((fun s hs => nomatch hs)) (fun z => by cases z) ch3, a, F.kp, b, kb⟩
  refine List.forall_mem_cons.mpr ⟨let ⟨f, fd, F, a, kp, b, kb⟩ := ok1 M; ⟨3, f, fd, F w base X Gb T, by decide, a, kp, binds_of b, kb⟩, ?_⟩
  exact fun s hs => by cases hs
theorem ok4 (M : Mo K mg) : ∃ f fd, (∀ (w : World) (base : PySem.Heap), K.In base → base.Ns mainGlobals mg → Tops base mg (TabList.T.map (·.1)) → FnG PySem.Challenge.pw_allworlds_k01_whole_fractions w K mg base (L2.CX PySem.Challenge.pw_allworlds_k01_whole_fractions w) false 6 f fd s4.ps (spF K G4 s4.modes)) ∧ mg "is_fraction" = some (.ref f) ∧ PySem.W.keepIn K (.ref f) = true ∧ (∀ (s : Shared) (us : List Value), us.length = s4.ps.length → BindsTo s fd ⟨us, []⟩ (s4.ps.zip us)) ∧ ∀ q ∈ s4.kbl, KB K fd s4.ps q.1 q.2.1 q.2.2 := by
  obtain ⟨f, fd, F, a, b, kb⟩ := M.e4
  refine ⟨f, fd, fun w base X Gb T => def_ok (ck := k4) (fn := f4) (Γ := T4) F sc4 rfl rfl rfl rfl (by decide) rfl (by decide) M.bl ?_ M.co ((fun s hs => nomatch hs)) M.xn M.xf rfl ((fun s hs => nomatch hs)) (fun z => by cases z) ch4, a, F.kp, b, kb⟩
  refine List.forall_mem_cons.mpr ⟨let ⟨f, fd, F, a, kp, b, kb⟩ := ok0 M; ⟨3, f, fd, F w base X Gb T, by decide, a, kp, binds_of b, kb⟩, ?_⟩
  refine List.forall_mem_cons.mpr ⟨let ⟨f, fd, F, a, kp, b, kb⟩ := ok1 M; ⟨3, f, fd, F w base X Gb T, by decide, a, kp, binds_of b, kb⟩, ?_⟩
  exact fun s hs => by cases hs
theorem ok5 (M : Mo K mg) : ∃ f fd, (∀ (w : World) (base : PySem.Heap), K.In base → base.Ns mainGlobals mg → Tops base mg (TabList.T.map (·.1)) → FnG PySem.Challenge.pw_allworlds_k01_whole_fractions w K mg base (L2.CX PySem.Challenge.pw_allworlds_k01_whole_fractions w) false 9 f fd s5.ps (spF K G5 s5.modes)) ∧ mg "added" = some (.ref f) ∧ PySem.W.keepIn K (.ref f) = true ∧ (∀ (s : Shared) (us : List Value), us.length = s5.ps.length → BindsTo s fd ⟨us, []⟩ (s5.ps.zip us)) ∧ ∀ q ∈ s5.kbl, KB K fd s5.ps q.1 q.2.1 q.2.2 := by
  obtain ⟨f, fd, F, a, b, kb⟩ := M.e5
  refine ⟨f, fd, fun w base X Gb T => def_ok (ck := k5) (fn := f5) (Γ := T5) F sc5 rfl rfl rfl rfl (by decide) rfl (by decide) M.bl ?_ M.co ((fun s hs => nomatch hs)) M.xn M.xf rfl ((fun s hs => nomatch hs)) (fun z => by cases z) ch5, a, F.kp, b, kb⟩
  refine List.forall_mem_cons.mpr ⟨let ⟨f, fd, F, a, kp, b, kb⟩ := ok3 M; ⟨6, f, fd, F w base X Gb T, by decide, a, kp, binds_of b, kb⟩, ?_⟩
  exact fun s hs => by cases hs
theorem ok6 (M : Mo K mg) : ∃ f fd, (∀ (w : World) (base : PySem.Heap), K.In base → base.Ns mainGlobals mg → Tops base mg (TabList.T.map (·.1)) → FnG PySem.Challenge.pw_allworlds_k01_whole_fractions w K mg base (L2.CX PySem.Challenge.pw_allworlds_k01_whole_fractions w) false 9 f fd s6.ps (spF K G6 s6.modes)) ∧ mg "taken" = some (.ref f) ∧ PySem.W.keepIn K (.ref f) = true ∧ (∀ (s : Shared) (us : List Value), us.length = s6.ps.length → BindsTo s fd ⟨us, []⟩ (s6.ps.zip us)) ∧ ∀ q ∈ s6.kbl, KB K fd s6.ps q.1 q.2.1 q.2.2 := by
  obtain ⟨f, fd, F, a, b, kb⟩ := M.e6
  refine ⟨f, fd, fun w base X Gb T => def_ok (ck := k6) (fn := f6) (Γ := T6) F sc6 rfl rfl rfl rfl (by decide) rfl (by decide) M.bl ?_ M.co ((fun s hs => nomatch hs)) M.xn M.xf rfl ((fun s hs => nomatch hs)) (fun z => by cases z) ch6, a, F.kp, b, kb⟩
  refine List.forall_mem_cons.mpr ⟨let ⟨f, fd, F, a, kp, b, kb⟩ := ok3 M; ⟨6, f, fd, F w base X Gb T, by decide, a, kp, binds_of b, kb⟩, ?_⟩
  exact fun s hs => by cases hs
theorem ok7 (M : Mo K mg) : ∃ f fd, (∀ (w : World) (base : PySem.Heap), K.In base → base.Ns mainGlobals mg → Tops base mg (TabList.T.map (·.1)) → FnG PySem.Challenge.pw_allworlds_k01_whole_fractions w K mg base (L2.CX PySem.Challenge.pw_allworlds_k01_whole_fractions w) false 9 f fd s7.ps (spF K G7 s7.modes)) ∧ mg "timed" = some (.ref f) ∧ PySem.W.keepIn K (.ref f) = true ∧ (∀ (s : Shared) (us : List Value), us.length = s7.ps.length → BindsTo s fd ⟨us, []⟩ (s7.ps.zip us)) ∧ ∀ q ∈ s7.kbl, KB K fd s7.ps q.1 q.2.1 q.2.2 := by
  obtain ⟨f, fd, F, a, b, kb⟩ := M.e7
  refine ⟨f, fd, fun w base X Gb T => def_ok (ck := k7) (fn := f7) (Γ := T7) F sc7 rfl rfl rfl rfl (by decide) rfl (by decide) M.bl ?_ M.co ((fun s hs => nomatch hs)) M.xn M.xf rfl ((fun s hs => nomatch hs)) (fun z => by cases z) ch7, a, F.kp, b, kb⟩
  refine List.forall_mem_cons.mpr ⟨let ⟨f, fd, F, a, kp, b, kb⟩ := ok3 M; ⟨6, f, fd, F w base X Gb T, by decide, a, kp, binds_of b, kb⟩, ?_⟩
  exact fun s hs => by cases hs
theorem ok8 (M : Mo K mg) : ∃ f fd, (∀ (w : World) (base : PySem.Heap), K.In base → base.Ns mainGlobals mg → Tops base mg (TabList.T.map (·.1)) → FnG PySem.Challenge.pw_allworlds_k01_whole_fractions w K mg base (L2.CX PySem.Challenge.pw_allworlds_k01_whole_fractions w) false 9 f fd s8.ps (spF K G8 s8.modes)) ∧ mg "divided" = some (.ref f) ∧ PySem.W.keepIn K (.ref f) = true ∧ (∀ (s : Shared) (us : List Value), us.length = s8.ps.length → BindsTo s fd ⟨us, []⟩ (s8.ps.zip us)) ∧ ∀ q ∈ s8.kbl, KB K fd s8.ps q.1 q.2.1 q.2.2 := by
  obtain ⟨f, fd, F, a, b, kb⟩ := M.e8
  refine ⟨f, fd, fun w base X Gb T => def_ok (ck := k8) (fn := f8) (Γ := T8) F sc8 rfl rfl rfl rfl (by decide) rfl (by decide) M.bl ?_ M.co ((fun s hs => nomatch hs)) M.xn M.xf rfl ((fun s hs => nomatch hs)) (fun z => by cases z) ch8, a, F.kp, b, kb⟩
  refine List.forall_mem_cons.mpr ⟨let ⟨f, fd, F, a, kp, b, kb⟩ := ok3 M; ⟨6, f, fd, F w base X Gb T, by decide, a, kp, binds_of b, kb⟩, ?_⟩
  exact fun s hs => by cases hs
theorem ok9 (M : Mo K mg) : ∃ f fd, (∀ (w : World) (base : PySem.Heap), K.In base → base.Ns mainGlobals mg → Tops base mg (TabList.T.map (·.1)) → FnG PySem.Challenge.pw_allworlds_k01_whole_fractions w K mg base (L2.CX PySem.Challenge.pw_allworlds_k01_whole_fractions w) false 3 f fd s9.ps (spF K G9 s9.modes)) ∧ mg "is_less" = some (.ref f) ∧ PySem.W.keepIn K (.ref f) = true ∧ (∀ (s : Shared) (us : List Value), us.length = s9.ps.length → BindsTo s fd ⟨us, []⟩ (s9.ps.zip us)) ∧ ∀ q ∈ s9.kbl, KB K fd s9.ps q.1 q.2.1 q.2.2 := by
  obtain ⟨f, fd, F, a, b, kb⟩ := M.e9
  refine ⟨f, fd, fun w base X Gb T => def_ok (ck := k9) (fn := f9) (Γ := T9) F sc9 rfl rfl rfl rfl (by decide) rfl (by decide) M.bl ?_ M.co ((fun s hs => nomatch hs)) M.xn M.xf rfl ((fun s hs => nomatch hs)) (fun z => by cases z) ch9, a, F.kp, b, kb⟩
  exact fun s hs => by cases hs
theorem ok10 (M : Mo K mg) : ∃ f fd, (∀ (w : World) (base : PySem.Heap), K.In base → base.Ns mainGlobals mg → Tops base mg (TabList.T.map (·.1)) → FnG PySem.Challenge.pw_allworlds_k01_whole_fractions w K mg base (L2.CX PySem.Challenge.pw_allworlds_k01_whole_fractions w) false 9 f fd s10.ps (spF K G10 s10.modes)) ∧ mg "total_of_all" = some (.ref f) ∧ PySem.W.keepIn K (.ref f) = true ∧ (∀ (s : Shared) (us : List Value), us.length = s10.ps.length → BindsTo s fd ⟨us, []⟩ (s10.ps.zip us)) ∧ ∀ q ∈ s10.kbl, KB K fd s10.ps q.1 q.2.1 q.2.2 := by
  obtain ⟨f, fd, F, a, b, kb⟩ := M.e10
  refine ⟨f, fd, fun w base X Gb T => def_ok (ck := k10) (fn := f10) (Γ := T10) F sc10 rfl rfl rfl rfl (by decide) rfl (by decide) M.bl ?_ M.co ((fun s hs => nomatch hs)) M.xn M.xf rfl ((fun s hs => nomatch hs)) (fun z => by cases z) ch10, a, F.kp, b, kb⟩
  refine List.forall_mem_cons.mpr ⟨let ⟨f, fd, F, a, kp, b, kb⟩ := ok2 M; ⟨6, f, fd, F w base X Gb T, by decide, a, kp, binds_of b, kb⟩, ?_⟩
  refine List.forall_mem_cons.mpr ⟨let ⟨f, fd, F, a, kp, b, kb⟩ := ok3 M; ⟨6, f, fd, F w base X Gb T, by decide, a, kp, binds_of b, kb⟩, ?_⟩
  exact fun s hs => by cases hs
theorem ok11 (M : Mo K mg) : ∃ f fd, (∀ (w : World) (base : PySem.Heap), K.In base → base.Ns mainGlobals mg → Tops base mg (TabList.T.map (·.1)) → FnG PySem.Challenge.pw_allworlds_k01_whole_fractions w K mg base (L2.CX PySem.Challenge.pw_allworlds_k01_whole_fractions w) false 12 f fd s11.ps (spF K G11 s11.modes)) ∧ mg "product_of_all" = some (.ref f) ∧ PySem.W.keepIn K (.ref f) = true ∧ (∀ (s : Shared) (us : List Value), us.length = s11.ps.length → BindsTo s fd ⟨us, []⟩ (s11.ps.zip us)) ∧ ∀ q ∈ s11.kbl, KB K fd s11.ps q.1 q.2.1 q.2.2 := by
  obtain ⟨f, fd, F, a, b, kb⟩ := M.e11
  refine ⟨f, fd, fun w base X Gb T => def_ok (ck := k11) (fn := f11) (Γ := T11) F sc11 rfl rfl rfl rfl (by decide) rfl (by decide) M.bl ?_ M.co ((fun s hs => nomatch hs)) M.xn M.xf rfl ((fun s hs => nomatch hs)) (fun z => by cases z) ch11, a, F.kp, b, kb⟩
  refine List.forall_mem_cons.mpr ⟨let ⟨f, fd, F, a, kp, b, kb⟩ := ok7 M; ⟨9, f, fd, F w base X Gb T, by decide, a, kp, binds_of b, kb⟩, ?_⟩
  exact fun s hs => by cases hs
theorem ok12 (M : Mo K mg) : ∃ f fd, (∀ (w : World) (base : PySem.Heap), K.In base → base.Ns mainGlobals mg → Tops base mg (TabList.T.map (·.1)) → FnG PySem.Challenge.pw_allworlds_k01_whole_fractions w K mg base (L2.CX PySem.Challenge.pw_allworlds_k01_whole_fractions w) false 12 f fd s12.ps (spF K G12 s12.modes)) ∧ mg "scaled_to_one" = some (.ref f) ∧ PySem.W.keepIn K (.ref f) = true ∧ (∀ (s : Shared) (us : List Value), us.length = s12.ps.length → BindsTo s fd ⟨us, []⟩ (s12.ps.zip us)) ∧ ∀ q ∈ s12.kbl, KB K fd s12.ps q.1 q.2.1 q.2.2 := by
  obtain ⟨f, fd, F, a, b, kb⟩ := M.e12
  refine ⟨f, fd, fun w base X Gb T => def_ok (ck := k12) (fn := f12) (Γ := T12) F sc12 rfl rfl rfl rfl (by decide) rfl (by decide) M.bl ?_ M.co (List.forall_mem_cons.mpr ⟨M.er1 w base _ (by decide), (fun s hs => nomatch hs)⟩) M.xn M.xf rfl ((fun s hs => nomatch hs)) (fun z => by cases z) ch12, a, F.kp, b, kb⟩
  refine List.forall_mem_cons.mpr ⟨let ⟨f, fd, F, a, kp, b, kb⟩ := ok8 M; ⟨9, f, fd, F w base X Gb T, by decide, a, kp, binds_of b, kb⟩, ?_⟩
  refine List.forall_mem_cons.mpr ⟨let ⟨f, fd, F, a, kp, b, kb⟩ := ok10 M; ⟨9, f, fd, F w base X Gb T, by decide, a, kp, binds_of b, kb⟩, ?_⟩
  exact fun s hs => by cases hs
theorem ok13 (M : Mo K mg) : ∃ f fd, (∀ (w : World) (base : PySem.Heap), K.In base → base.Ns mainGlobals mg → Tops base mg (TabList.T.map (·.1)) → FnG PySem.Challenge.pw_allworlds_k01_whole_fractions w K mg base (L2.CX PySem.Challenge.pw_allworlds_k01_whole_fractions w) true 3 f fd s13.ps (spF K G13 s13.modes)) ∧ mg "_law_heap" = some (.ref f) ∧ PySem.W.keepIn K (.ref f) = true ∧ (∀ (s : Shared) (us : List Value), us.length = s13.ps.length → BindsTo s fd ⟨us, []⟩ (s13.ps.zip us)) ∧ ∀ q ∈ s13.kbl, KB K fd s13.ps q.1 q.2.1 q.2.2 := by
  obtain ⟨f, fd, F, a, b, kb⟩ := M.e13
  refine ⟨f, fd, fun w base X Gb T => def_ok (ck := k13) (fn := f13) (Γ := T13) F sc13 rfl rfl rfl rfl (by decide) rfl (by decide) M.bl ?_ M.co ((fun s hs => nomatch hs)) M.xn M.xf rfl ((fun s hs => nomatch hs)) (fun z => by cases z) ch13, a, F.kp, b, kb⟩
  exact fun s hs => by cases hs
theorem ok14 (M : Mo K mg) : ∃ f fd, (∀ (w : World) (base : PySem.Heap), K.In base → base.Ns mainGlobals mg → Tops base mg (TabList.T.map (·.1)) → FnG PySem.Challenge.pw_allworlds_k01_whole_fractions w K mg base (L2.CX PySem.Challenge.pw_allworlds_k01_whole_fractions w) true 3 f fd s14.ps (spF K G14 s14.modes)) ∧ mg "_law_draw" = some (.ref f) ∧ PySem.W.keepIn K (.ref f) = true ∧ (∀ (s : Shared) (us : List Value), us.length = s14.ps.length → BindsTo s fd ⟨us, []⟩ (s14.ps.zip us)) ∧ ∀ q ∈ s14.kbl, KB K fd s14.ps q.1 q.2.1 q.2.2 := by
  obtain ⟨f, fd, F, a, b, kb⟩ := M.e14
  refine ⟨f, fd, fun w base X Gb T => def_ok (ck := k14) (fn := f14) (Γ := T14) F sc14 rfl rfl rfl rfl (by decide) rfl (by decide) M.bl ?_ M.co ((fun s hs => nomatch hs)) M.xn M.xf rfl ((fun s hs => nomatch hs)) (fun z => by cases z) ch14, a, F.kp, b, kb⟩
  exact fun s hs => by cases hs
theorem ok15 (M : Mo K mg) : ∃ f fd, (∀ (w : World) (base : PySem.Heap), K.In base → base.Ns mainGlobals mg → Tops base mg (TabList.T.map (·.1)) → FnG PySem.Challenge.pw_allworlds_k01_whole_fractions w K mg base (L2.CX PySem.Challenge.pw_allworlds_k01_whole_fractions w) true 6 f fd s15.ps (spF K G15 s15.modes)) ∧ mg "_law_pick" = some (.ref f) ∧ PySem.W.keepIn K (.ref f) = true ∧ (∀ (s : Shared) (us : List Value), us.length = s15.ps.length → BindsTo s fd ⟨us, []⟩ (s15.ps.zip us)) ∧ ∀ q ∈ s15.kbl, KB K fd s15.ps q.1 q.2.1 q.2.2 := by
  obtain ⟨f, fd, F, a, b, kb⟩ := M.e15
  refine ⟨f, fd, fun w base X Gb T => def_ok (ck := k15) (fn := f15) (Γ := T15) F sc15 rfl rfl rfl rfl (by decide) rfl (by decide) M.bl ?_ M.co ((fun s hs => nomatch hs)) M.xn M.xf rfl ((fun s hs => nomatch hs)) (fun z => by cases z) ch15, a, F.kp, b, kb⟩
  refine List.forall_mem_cons.mpr ⟨let ⟨f, fd, F, a, kp, b, kb⟩ := ok14 M; ⟨3, f, fd, F w base X Gb T, by decide, a, kp, binds_of b, kb⟩, ?_⟩
  exact fun s hs => by cases hs
theorem ok16 (M : Mo K mg) : ∃ f fd, (∀ (w : World) (base : PySem.Heap), K.In base → base.Ns mainGlobals mg → Tops base mg (TabList.T.map (·.1)) → FnG PySem.Challenge.pw_allworlds_k01_whole_fractions w K mg base (L2.CX PySem.Challenge.pw_allworlds_k01_whole_fractions w) true 3 f fd s16.ps (spF K G16 s16.modes)) ∧ mg "_law_divisor" = some (.ref f) ∧ PySem.W.keepIn K (.ref f) = true ∧ (∀ (s : Shared) (us : List Value), us.length = s16.ps.length → BindsTo s fd ⟨us, []⟩ (s16.ps.zip us)) ∧ ∀ q ∈ s16.kbl, KB K fd s16.ps q.1 q.2.1 q.2.2 := by
  obtain ⟨f, fd, F, a, b, kb⟩ := M.e16
  refine ⟨f, fd, fun w base X Gb T => def_ok (ck := k16) (fn := f16) (Γ := T16) F sc16 rfl rfl rfl rfl (by decide) rfl (by decide) M.bl ?_ M.co ((fun s hs => nomatch hs)) M.xn M.xf rfl ((fun s hs => nomatch hs)) (fun z => by cases z) ch16, a, F.kp, b, kb⟩
  exact fun s hs => by cases hs
theorem ok17 (M : Mo K mg) : ∃ f fd, (∀ (w : World) (base : PySem.Heap), K.In base → base.Ns mainGlobals mg → Tops base mg (TabList.T.map (·.1)) → FnG PySem.Challenge.pw_allworlds_k01_whole_fractions w K mg base (L2.CX PySem.Challenge.pw_allworlds_k01_whole_fractions w) true 3 f fd s17.ps (spF K G17 s17.modes)) ∧ mg "_law_is_whole" = some (.ref f) ∧ PySem.W.keepIn K (.ref f) = true ∧ (∀ (s : Shared) (us : List Value), us.length = s17.ps.length → BindsTo s fd ⟨us, []⟩ (s17.ps.zip us)) ∧ ∀ q ∈ s17.kbl, KB K fd s17.ps q.1 q.2.1 q.2.2 := by
  obtain ⟨f, fd, F, a, b, kb⟩ := M.e17
  refine ⟨f, fd, fun w base X Gb T => def_ok (ck := k17) (fn := f17) (Γ := T17) F sc17 rfl rfl rfl rfl (by decide) rfl (by decide) M.bl ?_ M.co ((fun s hs => nomatch hs)) M.xn M.xf rfl ((fun s hs => nomatch hs)) (fun z => by cases z) ch17, a, F.kp, b, kb⟩
  exact fun s hs => by cases hs
theorem ok18 (M : Mo K mg) : ∃ f fd, (∀ (w : World) (base : PySem.Heap), K.In base → base.Ns mainGlobals mg → Tops base mg (TabList.T.map (·.1)) → FnG PySem.Challenge.pw_allworlds_k01_whole_fractions w K mg base (L2.CX PySem.Challenge.pw_allworlds_k01_whole_fractions w) true 6 f fd s18.ps (spF K G18 s18.modes)) ∧ mg "_law_is_fraction" = some (.ref f) ∧ PySem.W.keepIn K (.ref f) = true ∧ (∀ (s : Shared) (us : List Value), us.length = s18.ps.length → BindsTo s fd ⟨us, []⟩ (s18.ps.zip us)) ∧ ∀ q ∈ s18.kbl, KB K fd s18.ps q.1 q.2.1 q.2.2 := by
  obtain ⟨f, fd, F, a, b, kb⟩ := M.e18
  refine ⟨f, fd, fun w base X Gb T => def_ok (ck := k18) (fn := f18) (Γ := T18) F sc18 rfl rfl rfl rfl (by decide) rfl (by decide) M.bl ?_ M.co ((fun s hs => nomatch hs)) M.xn M.xf rfl ((fun s hs => nomatch hs)) (fun z => by cases z) ch18, a, F.kp, b, kb⟩
  refine List.forall_mem_cons.mpr ⟨let ⟨f, fd, F, a, kp, b, kb⟩ := ok16 M; ⟨3, f, fd, F w base X Gb T, by decide, a, kp, binds_of b, kb⟩, ?_⟩
  refine List.forall_mem_cons.mpr ⟨let ⟨f, fd, F, a, kp, b, kb⟩ := ok17 M; ⟨3, f, fd, F w base X Gb T, by decide, a, kp, binds_of b, kb⟩, ?_⟩
  exact fun s hs => by cases hs
theorem ok19 (M : Mo K mg) : ∃ f fd, (∀ (w : World) (base : PySem.Heap), K.In base → base.Ns mainGlobals mg → Tops base mg (TabList.T.map (·.1)) → FnG PySem.Challenge.pw_allworlds_k01_whole_fractions w K mg base (L2.CX PySem.Challenge.pw_allworlds_k01_whole_fractions w) true 9 f fd s19.ps (spF K G19 s19.modes)) ∧ mg "_law_equal" = some (.ref f) ∧ PySem.W.keepIn K (.ref f) = true ∧ (∀ (s : Shared) (us : List Value), us.length = s19.ps.length → BindsTo s fd ⟨us, []⟩ (s19.ps.zip us)) ∧ ∀ q ∈ s19.kbl, KB K fd s19.ps q.1 q.2.1 q.2.2 := by
  obtain ⟨f, fd, F, a, b, kb⟩ := M.e19
  refine ⟨f, fd, fun w base X Gb T => def_ok (ck := k19) (fn := f19) (Γ := T19) F sc19 rfl rfl rfl rfl (by decide) rfl (by decide) M.bl ?_ M.co ((fun s hs => nomatch hs)) M.xn M.xf rfl ((fun s hs => nomatch hs)) (fun z => by cases z) ch19, a, F.kp, b, kb⟩
  refine List.forall_mem_cons.mpr ⟨let ⟨f, fd, F, a, kp, b, kb⟩ := ok18 M; ⟨6, f, fd, F w base X Gb T, by decide, a, kp, binds_of b, kb⟩, ?_⟩
  exact fun s hs => by cases hs
theorem ok20 (M : Mo K mg) : ∃ f fd, (∀ (w : World) (base : PySem.Heap), K.In base → base.Ns mainGlobals mg → Tops base mg (TabList.T.map (·.1)) → FnG PySem.Challenge.pw_allworlds_k01_whole_fractions w K mg base (L2.CX PySem.Challenge.pw_allworlds_k01_whole_fractions w) true 9 f fd s20.ps (spF K G20 s20.modes)) ∧ mg "_law_integer" = some (.ref f) ∧ PySem.W.keepIn K (.ref f) = true ∧ (∀ (s : Shared) (us : List Value), us.length = s20.ps.length → BindsTo s fd ⟨us, []⟩ (s20.ps.zip us)) ∧ ∀ q ∈ s20.kbl, KB K fd s20.ps q.1 q.2.1 q.2.2 := by
  obtain ⟨f, fd, F, a, b, kb⟩ := M.e20
  refine ⟨f, fd, fun w base X Gb T => def_ok (ck := k20) (fn := f20) (Γ := T20) F sc20 rfl rfl rfl rfl (by decide) rfl (by decide) M.bl ?_ M.co ((fun s hs => nomatch hs)) M.xn M.xf rfl ((fun s hs => nomatch hs)) (fun z => by cases z) ch20, a, F.kp, b, kb⟩
  refine List.forall_mem_cons.mpr ⟨let ⟨f, fd, F, a, kp, b, kb⟩ := ok14 M; ⟨3, f, fd, F w base X Gb T, by decide, a, kp, binds_of b, kb⟩, ?_⟩
  refine List.forall_mem_cons.mpr ⟨let ⟨f, fd, F, a, kp, b, kb⟩ := ok15 M; ⟨6, f, fd, F w base X Gb T, by decide, a, kp, binds_of b, kb⟩, ?_⟩
  exact fun s hs => by cases hs
theorem ok21 (M : Mo K mg) : ∃ f fd, (∀ (w : World) (base : PySem.Heap), K.In base → base.Ns mainGlobals mg → Tops base mg (TabList.T.map (·.1)) → FnG PySem.Challenge.pw_allworlds_k01_whole_fractions w K mg base (L2.CX PySem.Challenge.pw_allworlds_k01_whole_fractions w) true 12 f fd s21.ps (spF K G21 s21.modes)) ∧ mg "_law_part" = some (.ref f) ∧ PySem.W.keepIn K (.ref f) = true ∧ (∀ (s : Shared) (us : List Value), us.length = s21.ps.length → BindsTo s fd ⟨us, []⟩ (s21.ps.zip us)) ∧ ∀ q ∈ s21.kbl, KB K fd s21.ps q.1 q.2.1 q.2.2 := by
  obtain ⟨f, fd, F, a, b, kb⟩ := M.e21
  refine ⟨f, fd, fun w base X Gb T => def_ok (ck := k21) (fn := f21) (Γ := T21) F sc21 rfl rfl rfl rfl (by decide) rfl (by decide) M.bl ?_ M.co ((fun s hs => nomatch hs)) M.xn M.xf rfl ((fun s hs => nomatch hs)) (fun z => by cases z) ch21, a, F.kp, b, kb⟩
  refine List.forall_mem_cons.mpr ⟨let ⟨f, fd, F, a, kp, b, kb⟩ := ok16 M; ⟨3, f, fd, F w base X Gb T, by decide, a, kp, binds_of b, kb⟩, ?_⟩
  refine List.forall_mem_cons.mpr ⟨let ⟨f, fd, F, a, kp, b, kb⟩ := ok20 M; ⟨9, f, fd, F w base X Gb T, by decide, a, kp, binds_of b, kb⟩, ?_⟩
  exact fun s hs => by cases hs
theorem ok22 (M : Mo K mg) : ∃ f fd, (∀ (w : World) (base : PySem.Heap), K.In base → base.Ns mainGlobals mg → Tops base mg (TabList.T.map (·.1)) → FnG PySem.Challenge.pw_allworlds_k01_whole_fractions w K mg base (L2.CX PySem.Challenge.pw_allworlds_k01_whole_fractions w) true 9 f fd s22.ps (spF K G22 s22.modes)) ∧ mg "_law_odd" = some (.ref f) ∧ PySem.W.keepIn K (.ref f) = true ∧ (∀ (s : Shared) (us : List Value), us.length = s22.ps.length → BindsTo s fd ⟨us, []⟩ (s22.ps.zip us)) ∧ ∀ q ∈ s22.kbl, KB K fd s22.ps q.1 q.2.1 q.2.2 := by
  obtain ⟨f, fd, F, a, b, kb⟩ := M.e22
  refine ⟨f, fd, fun w base X Gb T => def_ok (ck := k22) (fn := f22) (Γ := T22) F sc22 rfl rfl rfl rfl (by decide) rfl (by decide) M.bl ?_ M.co ((fun s hs => nomatch hs)) M.xn M.xf rfl ((fun s hs => nomatch hs)) (fun z => by cases z) ch22, a, F.kp, b, kb⟩
  refine List.forall_mem_cons.mpr ⟨let ⟨f, fd, F, a, kp, b, kb⟩ := ok14 M; ⟨3, f, fd, F w base X Gb T, by decide, a, kp, binds_of b, kb⟩, ?_⟩
  refine List.forall_mem_cons.mpr ⟨let ⟨f, fd, F, a, kp, b, kb⟩ := ok15 M; ⟨6, f, fd, F w base X Gb T, by decide, a, kp, binds_of b, kb⟩, ?_⟩
  exact fun s hs => by cases hs
theorem ok23 (M : Mo K mg) (w : World) (base : PySem.Heap) (Γ : Gm) (same : Γ.fnA 0 = A23) : HearAt PySem.Challenge.pw_allworlds_k01_whole_fractions w K mg base Γ hs23 := by
  obtain ⟨f, oc, od, dV, kV, dc, pm, an, cd, ct, sl, a, kp, l, c, b⟩ := M.e23
  exact hear_ok (ck := k23) (fn := f23) a kp l c b sc23 rfl rfl rfl (by decide +kernel) rfl rfl rfl rfl M.bl M.co rfl M.xn M.xf rfl rfl rfl same ch23
theorem ok24 (M : Mo K mg) : ∃ f fd, (∀ (w : World) (base : PySem.Heap), K.In base → base.Ns mainGlobals mg → Tops base mg (TabList.T.map (·.1)) → FnG PySem.Challenge.pw_allworlds_k01_whole_fractions w K mg base (L2.CX PySem.Challenge.pw_allworlds_k01_whole_fractions w) true 12 f fd s24.ps (spF K G24 s24.modes)) ∧ mg "_law_pair_right" = some (.ref f) ∧ PySem.W.keepIn K (.ref f) = true ∧ (∀ (s : Shared) (us : List Value), us.length = s24.ps.length → BindsTo s fd ⟨us, []⟩ (s24.ps.zip us)) ∧ ∀ q ∈ s24.kbl, KB K fd s24.ps q.1 q.2.1 q.2.2 := by
  obtain ⟨f, fd, F, a, b, kb, c, P, z1, z2, z3, z4⟩ := M.e24
  refine ⟨f, fd, fun w base X Gb T => def_ok (ck := k24) (fn := f24) (Γ := T24) F sc24 rfl rfl rfl rfl (by decide) rfl (by decide) M.bl ?_ M.co ((fun s hs => nomatch hs)) M.xn M.xf rfl (List.forall_mem_cons.mpr ⟨ok23 M w base _ rfl, (fun s hs => nomatch hs)⟩) (fun _ => ⟨c, P, ⟨PySem.W.codeHd_of_K X z2, T.at (List.mem_map.mpr ⟨_, z3, rfl⟩), T.gl _ (List.mem_map.mpr ⟨_, z3, rfl⟩)⟩, z1, z3, z4⟩) ch24, a, F.kp, b, kb⟩
  refine List.forall_mem_cons.mpr ⟨let ⟨f, fd, F, a, kp, b, kb⟩ := ok5 M; ⟨9, f, fd, F w base X Gb T, by decide, a, kp, binds_of b, kb⟩, ?_⟩
  refine List.forall_mem_cons.mpr ⟨let ⟨f, fd, F, a, kp, b, kb⟩ := ok6 M; ⟨9, f, fd, F w base X Gb T, by decide, a, kp, binds_of b, kb⟩, ?_⟩
  refine List.forall_mem_cons.mpr ⟨let ⟨f, fd, F, a, kp, b, kb⟩ := ok7 M; ⟨9, f, fd, F w base X Gb T, by decide, a, kp, binds_of b, kb⟩, ?_⟩
  refine List.forall_mem_cons.mpr ⟨let ⟨f, fd, F, a, kp, b, kb⟩ := ok8 M; ⟨9, f, fd, F w base X Gb T, by decide, a, kp, binds_of b, kb⟩, ?_⟩
  refine List.forall_mem_cons.mpr ⟨let ⟨f, fd, F, a, kp, b, kb⟩ := ok9 M; ⟨3, f, fd, F w base X Gb T, by decide, a, kp, binds_of b, kb⟩, ?_⟩
  refine List.forall_mem_cons.mpr ⟨let ⟨f, fd, F, a, kp, b, kb⟩ := ok19 M; ⟨9, f, fd, F w base X Gb T, by decide, a, kp, binds_of b, kb⟩, ?_⟩
  exact fun s hs => by cases hs
theorem ok25 (M : Mo K mg) : ∃ f fd, (∀ (w : World) (base : PySem.Heap), K.In base → base.Ns mainGlobals mg → Tops base mg (TabList.T.map (·.1)) → FnG PySem.Challenge.pw_allworlds_k01_whole_fractions w K mg base (L2.CX PySem.Challenge.pw_allworlds_k01_whole_fractions w) true 15 f fd s25.ps (spF K G25 s25.modes)) ∧ mg "_law_several_right" = some (.ref f) ∧ PySem.W.keepIn K (.ref f) = true ∧ (∀ (s : Shared) (us : List Value), us.length = s25.ps.length → BindsTo s fd ⟨us, []⟩ (s25.ps.zip us)) ∧ ∀ q ∈ s25.kbl, KB K fd s25.ps q.1 q.2.1 q.2.2 := by
  obtain ⟨f, fd, F, a, b, kb, c, P, z1, z2, z3, z4⟩ := M.e25
  refine ⟨f, fd, fun w base X Gb T => def_ok (ck := k25) (fn := f25) (Γ := T25) F sc25 rfl rfl rfl rfl (by decide) rfl (by decide) M.bl ?_ M.co ((fun s hs => nomatch hs)) M.xn M.xf rfl (List.forall_mem_cons.mpr ⟨ok23 M w base _ rfl, (fun s hs => nomatch hs)⟩) (fun _ => ⟨c, P, ⟨PySem.W.codeHd_of_K X z2, T.at (List.mem_map.mpr ⟨_, z3, rfl⟩), T.gl _ (List.mem_map.mpr ⟨_, z3, rfl⟩)⟩, z1, z3, z4⟩) ch25, a, F.kp, b, kb⟩
  refine List.forall_mem_cons.mpr ⟨let ⟨f, fd, F, a, kp, b, kb⟩ := ok2 M; ⟨6, f, fd, F w base X Gb T, by decide, a, kp, binds_of b, kb⟩, ?_⟩
  refine List.forall_mem_cons.mpr ⟨let ⟨f, fd, F, a, kp, b, kb⟩ := ok10 M; ⟨9, f, fd, F w base X Gb T, by decide, a, kp, binds_of b, kb⟩, ?_⟩
  refine List.forall_mem_cons.mpr ⟨let ⟨f, fd, F, a, kp, b, kb⟩ := ok11 M; ⟨12, f, fd, F w base X Gb T, by decide, a, kp, binds_of b, kb⟩, ?_⟩
  refine List.forall_mem_cons.mpr ⟨let ⟨f, fd, F, a, kp, b, kb⟩ := ok12 M; ⟨12, f, fd, F w base X Gb T, by decide, a, kp, binds_of b, kb⟩, ?_⟩
  refine List.forall_mem_cons.mpr ⟨let ⟨f, fd, F, a, kp, b, kb⟩ := ok14 M; ⟨3, f, fd, F w base X Gb T, by decide, a, kp, binds_of b, kb⟩, ?_⟩
  refine List.forall_mem_cons.mpr ⟨let ⟨f, fd, F, a, kp, b, kb⟩ := ok16 M; ⟨3, f, fd, F w base X Gb T, by decide, a, kp, binds_of b, kb⟩, ?_⟩
  refine List.forall_mem_cons.mpr ⟨let ⟨f, fd, F, a, kp, b, kb⟩ := ok19 M; ⟨9, f, fd, F w base X Gb T, by decide, a, kp, binds_of b, kb⟩, ?_⟩
  exact fun s hs => by cases hs
theorem ok26 (M : Mo K mg) : ∃ f fd, (∀ (w : World) (base : PySem.Heap), K.In base → base.Ns mainGlobals mg → Tops base mg (TabList.T.map (·.1)) → FnG PySem.Challenge.pw_allworlds_k01_whole_fractions w K mg base (L2.CX PySem.Challenge.pw_allworlds_k01_whole_fractions w) true 18 f fd s26.ps (spF K G26 s26.modes)) ∧ mg "law" = some (.ref f) ∧ PySem.W.keepIn K (.ref f) = true ∧ (∀ (s : Shared) (us : List Value), us.length = s26.ps.length → BindsTo s fd ⟨us, []⟩ (s26.ps.zip us)) ∧ ∀ q ∈ s26.kbl, KB K fd s26.ps q.1 q.2.1 q.2.2 := by
  obtain ⟨f, fd, F, a, b, kb, c, P, z1, z2, z3, z4⟩ := M.e26
  refine ⟨f, fd, fun w base X Gb T => def_ok (ck := k26) (fn := f26) (Γ := T26) F sc26 rfl rfl rfl rfl (by decide) rfl (by decide) M.bl ?_ M.co ((fun s hs => nomatch hs)) M.xn M.xf rfl (List.forall_mem_cons.mpr ⟨ok23 M w base _ rfl, (fun s hs => nomatch hs)⟩) (fun _ => ⟨c, P, ⟨PySem.W.codeHd_of_K X z2, T.at (List.mem_map.mpr ⟨_, z3, rfl⟩), T.gl _ (List.mem_map.mpr ⟨_, z3, rfl⟩)⟩, z1, z3, z4⟩) ch26, a, F.kp, b, kb⟩
  refine List.forall_mem_cons.mpr ⟨let ⟨f, fd, F, a, kp, b, kb⟩ := ok2 M; ⟨6, f, fd, F w base X Gb T, by decide, a, kp, binds_of b, kb⟩, ?_⟩
  refine List.forall_mem_cons.mpr ⟨let ⟨f, fd, F, a, kp, b, kb⟩ := ok3 M; ⟨6, f, fd, F w base X Gb T, by decide, a, kp, binds_of b, kb⟩, ?_⟩
  refine List.forall_mem_cons.mpr ⟨let ⟨f, fd, F, a, kp, b, kb⟩ := ok4 M; ⟨6, f, fd, F w base X Gb T, by decide, a, kp, binds_of b, kb⟩, ?_⟩
  refine List.forall_mem_cons.mpr ⟨let ⟨f, fd, F, a, kp, b, kb⟩ := ok6 M; ⟨9, f, fd, F w base X Gb T, by decide, a, kp, binds_of b, kb⟩, ?_⟩
  refine List.forall_mem_cons.mpr ⟨let ⟨f, fd, F, a, kp, b, kb⟩ := ok8 M; ⟨9, f, fd, F w base X Gb T, by decide, a, kp, binds_of b, kb⟩, ?_⟩
  refine List.forall_mem_cons.mpr ⟨let ⟨f, fd, F, a, kp, b, kb⟩ := ok9 M; ⟨3, f, fd, F w base X Gb T, by decide, a, kp, binds_of b, kb⟩, ?_⟩
  refine List.forall_mem_cons.mpr ⟨let ⟨f, fd, F, a, kp, b, kb⟩ := ok10 M; ⟨9, f, fd, F w base X Gb T, by decide, a, kp, binds_of b, kb⟩, ?_⟩
  refine List.forall_mem_cons.mpr ⟨let ⟨f, fd, F, a, kp, b, kb⟩ := ok11 M; ⟨12, f, fd, F w base X Gb T, by decide, a, kp, binds_of b, kb⟩, ?_⟩
  refine List.forall_mem_cons.mpr ⟨let ⟨f, fd, F, a, kp, b, kb⟩ := ok12 M; ⟨12, f, fd, F w base X Gb T, by decide, a, kp, binds_of b, kb⟩, ?_⟩
  refine List.forall_mem_cons.mpr ⟨let ⟨f, fd, F, a, kp, b, kb⟩ := ok13 M; ⟨3, f, fd, F w base X Gb T, by decide, a, kp, binds_of b, kb⟩, ?_⟩
  refine List.forall_mem_cons.mpr ⟨let ⟨f, fd, F, a, kp, b, kb⟩ := ok14 M; ⟨3, f, fd, F w base X Gb T, by decide, a, kp, binds_of b, kb⟩, ?_⟩
  refine List.forall_mem_cons.mpr ⟨let ⟨f, fd, F, a, kp, b, kb⟩ := ok15 M; ⟨6, f, fd, F w base X Gb T, by decide, a, kp, binds_of b, kb⟩, ?_⟩
  refine List.forall_mem_cons.mpr ⟨let ⟨f, fd, F, a, kp, b, kb⟩ := ok18 M; ⟨6, f, fd, F w base X Gb T, by decide, a, kp, binds_of b, kb⟩, ?_⟩
  refine List.forall_mem_cons.mpr ⟨let ⟨f, fd, F, a, kp, b, kb⟩ := ok19 M; ⟨9, f, fd, F w base X Gb T, by decide, a, kp, binds_of b, kb⟩, ?_⟩
  refine List.forall_mem_cons.mpr ⟨let ⟨f, fd, F, a, kp, b, kb⟩ := ok20 M; ⟨9, f, fd, F w base X Gb T, by decide, a, kp, binds_of b, kb⟩, ?_⟩
  refine List.forall_mem_cons.mpr ⟨let ⟨f, fd, F, a, kp, b, kb⟩ := ok21 M; ⟨12, f, fd, F w base X Gb T, by decide, a, kp, binds_of b, kb⟩, ?_⟩
  refine List.forall_mem_cons.mpr ⟨let ⟨f, fd, F, a, kp, b, kb⟩ := ok22 M; ⟨9, f, fd, F w base X Gb T, by decide, a, kp, binds_of b, kb⟩, ?_⟩
  refine List.forall_mem_cons.mpr ⟨let ⟨f, fd, F, a, kp, b, kb⟩ := ok24 M; ⟨12, f, fd, F w base X Gb T, by decide, a, kp, binds_of b, kb⟩, ?_⟩
  refine List.forall_mem_cons.mpr ⟨let ⟨f, fd, F, a, kp, b, kb⟩ := ok25 M; ⟨15, f, fd, F w base X Gb T, by decide, a, kp, binds_of b, kb⟩, ?_⟩
  exact fun s hs => by cases hs
set_option maxHeartbeats 0 in
theorem mo_mk {h : PySem.Heap} (X : K.In h) (G : h.Ns mainGlobals mg)
    {f0 : Addr}
    {od0 an0 : Option Addr}
    {sl0 : Array (Option Value)}
    {oc0 kV0 dc0 pm0 ct0 : Value}
    {cd0 : Value}
    {f1 : Addr}
    {od1 an1 : Option Addr}
    {sl1 : Array (Option Value)}
    {oc1 kV1 dc1 pm1 ct1 : Value}
    {cd1 : Value}
    {f2 : Addr}
    {od2 an2 : Option Addr}
    {sl2 : Array (Option Value)}
    {oc2 kV2 dc2 pm2 ct2 : Value}
    {cd2 : Value}
    {f3 : Addr}
    {od3 an3 : Option Addr}
    {sl3 : Array (Option Value)}
    {oc3 kV3 dc3 pm3 ct3 : Value}
    {cd3 : Value}
    {f4 : Addr}
    {od4 an4 : Option Addr}
    {sl4 : Array (Option Value)}
    {oc4 kV4 dc4 pm4 ct4 : Value}
    {cd4 : Value}
    {f5 : Addr}
    {od5 an5 : Option Addr}
    {sl5 : Array (Option Value)}
    {oc5 kV5 dc5 pm5 ct5 : Value}
    {cd5 : Value}
    {f6 : Addr}
    {od6 an6 : Option Addr}
    {sl6 : Array (Option Value)}
    {oc6 kV6 dc6 pm6 ct6 : Value}
    {cd6 : Value}
    {f7 : Addr}
    {od7 an7 : Option Addr}
    {sl7 : Array (Option Value)}
    {oc7 kV7 dc7 pm7 ct7 : Value}
    {cd7 : Value}
    {f8 : Addr}
    {od8 an8 : Option Addr}
    {sl8 : Array (Option Value)}
    {oc8 kV8 dc8 pm8 ct8 : Value}
    {cd8 : Value}
    {f9 : Addr}
    {od9 an9 : Option Addr}
    {sl9 : Array (Option Value)}
    {oc9 kV9 dc9 pm9 ct9 : Value}
    {cd9 : Value}
    {f10 : Addr}
    {od10 an10 : Option Addr}
    {sl10 : Array (Option Value)}
    {oc10 kV10 dc10 pm10 ct10 : Value}
    {cd10 : Value}
    {f11 : Addr}
    {od11 an11 : Option Addr}
    {sl11 : Array (Option Value)}
    {oc11 kV11 dc11 pm11 ct11 : Value}
    {cd11 : Value}
    {f12 : Addr}
    {od12 an12 : Option Addr}
    {sl12 : Array (Option Value)}
    {oc12 kV12 dc12 pm12 ct12 : Value}
    {cd12 : Value}
    {f13 : Addr}
    {od13 an13 : Option Addr}
    {sl13 : Array (Option Value)}
    {oc13 kV13 dc13 pm13 ct13 : Value}
    {cd13 : Value}
    {f14 : Addr}
    {od14 an14 : Option Addr}
    {sl14 : Array (Option Value)}
    {oc14 kV14 dc14 pm14 ct14 : Value}
    {cd14 : Value}
    {f15 : Addr}
    {od15 an15 : Option Addr}
    {sl15 : Array (Option Value)}
    {oc15 kV15 dc15 pm15 ct15 : Value}
    {cd15 : Value}
    {f16 : Addr}
    {od16 an16 : Option Addr}
    {sl16 : Array (Option Value)}
    {oc16 kV16 dc16 pm16 ct16 : Value}
    {cd16 : Value}
    {f17 : Addr}
    {od17 an17 : Option Addr}
    {sl17 : Array (Option Value)}
    {oc17 kV17 dc17 pm17 ct17 : Value}
    {cd17 : Value}
    {f18 : Addr}
    {od18 an18 : Option Addr}
    {sl18 : Array (Option Value)}
    {oc18 kV18 dc18 pm18 ct18 : Value}
    {cd18 : Value}
    {f19 : Addr}
    {od19 an19 : Option Addr}
    {sl19 : Array (Option Value)}
    {oc19 kV19 dc19 pm19 ct19 : Value}
    {cd19 : Value}
    {f20 : Addr}
    {od20 an20 : Option Addr}
    {sl20 : Array (Option Value)}
    {oc20 kV20 dc20 pm20 ct20 : Value}
    {cd20 : Value}
    {f21 : Addr}
    {od21 an21 : Option Addr}
    {sl21 : Array (Option Value)}
    {oc21 kV21 dc21 pm21 ct21 : Value}
    {cd21 : Value}
    {f22 : Addr}
    {od22 an22 : Option Addr}
    {sl22 : Array (Option Value)}
    {oc22 kV22 dc22 pm22 ct22 : Value}
    {cd22 : Value}
    {f23 : Addr}
    {od23 an23 : Option Addr}
    {sl23 : Array (Option Value)}
    {oc23 kV23 dc23 pm23 ct23 : Value}
    {cd23 : Value}
    {f24 : Addr}
    {od24 an24 : Option Addr}
    {sl24 : Array (Option Value)}
    {oc24 kV24 dc24 pm24 ct24 : Value}
    {lc24 lp24 : Addr}
    {f25 : Addr}
    {od25 an25 : Option Addr}
    {sl25 : Array (Option Value)}
    {oc25 kV25 dc25 pm25 ct25 : Value}
    {lc25 lp25 : Addr}
    {f26 : Addr}
    {od26 an26 : Option Addr}
    {sl26 : Array (Option Value)}
    {oc26 kV26 dc26 pm26 ct26 : Value}
    {lc26 lp26 : Addr}
    {lx24 : Value}
    {ly24 : Option Addr}
    {lz24 : Array (Option Value)}
    {lv24 : Array Value}
    {lx25 : Value}
    {ly25 : Option Addr}
    {lz25 : Array (Option Value)}
    {lv25 : Array Value}
    {lx26 : Value}
    {ly26 : Option Addr}
    {lz26 : Array (Option Value)}
    {lv26 : Array Value}
    {t0_0 t0_1 : Tok}
    {ta0 : Addr}
    {td0 : Option Addr}
    {tn0 : Nat}
    {ts0 : Array (Option Value)}
    {t1_0 t1_1 : Tok}
    {ta1 : Addr}
    {td1 : Option Addr}
    {tn1 : Nat}
    {ts1 : Array (Option Value)}
    {E0C E0N E0f E0da E0cc : Addr}
    {E0nm E0q : Str}
    {E0bs E0bm E0sub : List Value}
    {E0sn : List Str}
    {E0ab : Bool}
    {E0col : Option Bool}
    {E0dd E0od E0an E0cdd E0cld : Option Addr}
    {E0k0 E0k1 E0k2 E0k3 E0k5 : Option Value}
    {E0oc E0kV E0dc E0pm E0ct E0ccl E0cl : Value}
    {E0sl E0ccs E0csl : Array (Option Value)}
    {E0vs : Array Value}
    {E0tf : Tok}
    {E0cd : ClassData}
    {E1C E1N E1f E1da E1cc : Addr}
    {E1nm E1q : Str}
    {E1bs E1bm E1sub : List Value}
    {E1sn : List Str}
    {E1ab : Bool}
    {E1col : Option Bool}
    {E1dd E1od E1an E1cdd E1cld : Option Addr}
    {E1k0 E1k1 E1k2 E1k3 E1k5 : Option Value}
    {E1oc E1kV E1dc E1pm E1ct E1ccl E1cl : Value}
    {E1sl E1ccs E1csl : Array (Option Value)}
    {E1vs : Array Value}
    {E1tf : Tok}
    {E1cd : ClassData}
    {X1D : Addr}
    (a0 : PySem.W.nsIn K mainGlobals "is_integer" = some (some (.ref f0)))
    (l0 : K.lookup f0 = some ⟨oc0, od0, .func (PySem.W.fnOf "is_integer" "is_integer" (defArgs (top 5)) (defBody (top 5)) (defScope (top 5)) .none kV0 dc0 pm0 an0 cd0 ct0), sl0⟩)
    (c0 : PySem.W.codeIn K cd0 "is_integer" = true)
    (k0 : PySem.W.keepIn K (.ref f0) = true)
    (a1 : PySem.W.nsIn K mainGlobals "shared_divisor" = some (some (.ref f1)))
    (l1 : K.lookup f1 = some ⟨oc1, od1, .func (PySem.W.fnOf "shared_divisor" "shared_divisor" (defArgs (top 9)) (defBody (top 9)) (defScope (top 9)) .none kV1 dc1 pm1 an1 cd1 ct1), sl1⟩)
    (c1 : PySem.W.codeIn K cd1 "shared_divisor" = true)
    (k1 : PySem.W.keepIn K (.ref f1) = true)
    (a2 : PySem.W.nsIn K mainGlobals "common_bottom" = some (some (.ref f2)))
    (l2 : K.lookup f2 = some ⟨oc2, od2, .func (PySem.W.fnOf "common_bottom" "common_bottom" (defArgs (top 10)) (defBody (top 10)) (defScope (top 10)) .none kV2 dc2 pm2 an2 cd2 ct2), sl2⟩)
    (c2 : PySem.W.codeIn K cd2 "common_bottom" = true)
    (k2 : PySem.W.keepIn K (.ref f2) = true)
    (a3 : PySem.W.nsIn K mainGlobals "fraction_of" = some (some (.ref f3)))
    (l3 : K.lookup f3 = some ⟨oc3, od3, .func (PySem.W.fnOf "fraction_of" "fraction_of" (defArgs (top 11)) (defBody (top 11)) (defScope (top 11)) .none kV3 dc3 pm3 an3 cd3 ct3), sl3⟩)
    (c3 : PySem.W.codeIn K cd3 "fraction_of" = true)
    (k3 : PySem.W.keepIn K (.ref f3) = true)
    (a4 : PySem.W.nsIn K mainGlobals "is_fraction" = some (some (.ref f4)))
    (l4 : K.lookup f4 = some ⟨oc4, od4, .func (PySem.W.fnOf "is_fraction" "is_fraction" (defArgs (top 12)) (defBody (top 12)) (defScope (top 12)) .none kV4 dc4 pm4 an4 cd4 ct4), sl4⟩)
    (c4 : PySem.W.codeIn K cd4 "is_fraction" = true)
    (k4 : PySem.W.keepIn K (.ref f4) = true)
    (a5 : PySem.W.nsIn K mainGlobals "added" = some (some (.ref f5)))
    (l5 : K.lookup f5 = some ⟨oc5, od5, .func (PySem.W.fnOf "added" "added" (defArgs (top 13)) (defBody (top 13)) (defScope (top 13)) .none kV5 dc5 pm5 an5 cd5 ct5), sl5⟩)
    (c5 : PySem.W.codeIn K cd5 "added" = true)
    (k5 : PySem.W.keepIn K (.ref f5) = true)
    (a6 : PySem.W.nsIn K mainGlobals "taken" = some (some (.ref f6)))
    (l6 : K.lookup f6 = some ⟨oc6, od6, .func (PySem.W.fnOf "taken" "taken" (defArgs (top 14)) (defBody (top 14)) (defScope (top 14)) .none kV6 dc6 pm6 an6 cd6 ct6), sl6⟩)
    (c6 : PySem.W.codeIn K cd6 "taken" = true)
    (k6 : PySem.W.keepIn K (.ref f6) = true)
    (a7 : PySem.W.nsIn K mainGlobals "timed" = some (some (.ref f7)))
    (l7 : K.lookup f7 = some ⟨oc7, od7, .func (PySem.W.fnOf "timed" "timed" (defArgs (top 15)) (defBody (top 15)) (defScope (top 15)) .none kV7 dc7 pm7 an7 cd7 ct7), sl7⟩)
    (c7 : PySem.W.codeIn K cd7 "timed" = true)
    (k7 : PySem.W.keepIn K (.ref f7) = true)
    (a8 : PySem.W.nsIn K mainGlobals "divided" = some (some (.ref f8)))
    (l8 : K.lookup f8 = some ⟨oc8, od8, .func (PySem.W.fnOf "divided" "divided" (defArgs (top 16)) (defBody (top 16)) (defScope (top 16)) .none kV8 dc8 pm8 an8 cd8 ct8), sl8⟩)
    (c8 : PySem.W.codeIn K cd8 "divided" = true)
    (k8 : PySem.W.keepIn K (.ref f8) = true)
    (a9 : PySem.W.nsIn K mainGlobals "is_less" = some (some (.ref f9)))
    (l9 : K.lookup f9 = some ⟨oc9, od9, .func (PySem.W.fnOf "is_less" "is_less" (defArgs (top 17)) (defBody (top 17)) (defScope (top 17)) .none kV9 dc9 pm9 an9 cd9 ct9), sl9⟩)
    (c9 : PySem.W.codeIn K cd9 "is_less" = true)
    (k9 : PySem.W.keepIn K (.ref f9) = true)
    (a10 : PySem.W.nsIn K mainGlobals "total_of_all" = some (some (.ref f10)))
    (l10 : K.lookup f10 = some ⟨oc10, od10, .func (PySem.W.fnOf "total_of_all" "total_of_all" (defArgs (top 18)) (defBody (top 18)) (defScope (top 18)) .none kV10 dc10 pm10 an10 cd10 ct10), sl10⟩)
    (c10 : PySem.W.codeIn K cd10 "total_of_all" = true)
    (k10 : PySem.W.keepIn K (.ref f10) = true)
    (a11 : PySem.W.nsIn K mainGlobals "product_of_all" = some (some (.ref f11)))
    (l11 : K.lookup f11 = some ⟨oc11, od11, .func (PySem.W.fnOf "product_of_all" "product_of_all" (defArgs (top 19)) (defBody (top 19)) (defScope (top 19)) .none kV11 dc11 pm11 an11 cd11 ct11), sl11⟩)
    (c11 : PySem.W.codeIn K cd11 "product_of_all" = true)
    (k11 : PySem.W.keepIn K (.ref f11) = true)
    (a12 : PySem.W.nsIn K mainGlobals "scaled_to_one" = some (some (.ref f12)))
    (l12 : K.lookup f12 = some ⟨oc12, od12, .func (PySem.W.fnOf "scaled_to_one" "scaled_to_one" (defArgs (top 20)) (defBody (top 20)) (defScope (top 20)) .none kV12 dc12 pm12 an12 cd12 ct12), sl12⟩)
    (c12 : PySem.W.codeIn K cd12 "scaled_to_one" = true)
    (k12 : PySem.W.keepIn K (.ref f12) = true)
    (a13 : PySem.W.nsIn K mainGlobals "_law_heap" = some (some (.ref f13)))
    (l13 : K.lookup f13 = some ⟨oc13, od13, .func (PySem.W.fnOf "_law_heap" "_law_heap" (defArgs (top 22)) (defBody (top 22)) (defScope (top 22)) .none kV13 dc13 pm13 an13 cd13 ct13), sl13⟩)
    (c13 : PySem.W.codeIn K cd13 "_law_heap" = true)
    (k13 : PySem.W.keepIn K (.ref f13) = true)
    (a14 : PySem.W.nsIn K mainGlobals "_law_draw" = some (some (.ref f14)))
    (l14 : K.lookup f14 = some ⟨oc14, od14, .func (PySem.W.fnOf "_law_draw" "_law_draw" (defArgs (top 23)) (defBody (top 23)) (defScope (top 23)) .none kV14 dc14 pm14 an14 cd14 ct14), sl14⟩)
    (c14 : PySem.W.codeIn K cd14 "_law_draw" = true)
    (k14 : PySem.W.keepIn K (.ref f14) = true)
    (a15 : PySem.W.nsIn K mainGlobals "_law_pick" = some (some (.ref f15)))
    (l15 : K.lookup f15 = some ⟨oc15, od15, .func (PySem.W.fnOf "_law_pick" "_law_pick" (defArgs (top 24)) (defBody (top 24)) (defScope (top 24)) .none kV15 dc15 pm15 an15 cd15 ct15), sl15⟩)
    (c15 : PySem.W.codeIn K cd15 "_law_pick" = true)
    (k15 : PySem.W.keepIn K (.ref f15) = true)
    (a16 : PySem.W.nsIn K mainGlobals "_law_divisor" = some (some (.ref f16)))
    (l16 : K.lookup f16 = some ⟨oc16, od16, .func (PySem.W.fnOf "_law_divisor" "_law_divisor" (defArgs (top 25)) (defBody (top 25)) (defScope (top 25)) .none kV16 dc16 pm16 an16 cd16 ct16), sl16⟩)
    (c16 : PySem.W.codeIn K cd16 "_law_divisor" = true)
    (k16 : PySem.W.keepIn K (.ref f16) = true)
    (a17 : PySem.W.nsIn K mainGlobals "_law_is_whole" = some (some (.ref f17)))
    (l17 : K.lookup f17 = some ⟨oc17, od17, .func (PySem.W.fnOf "_law_is_whole" "_law_is_whole" (defArgs (top 26)) (defBody (top 26)) (defScope (top 26)) .none kV17 dc17 pm17 an17 cd17 ct17), sl17⟩)
    (c17 : PySem.W.codeIn K cd17 "_law_is_whole" = true)
    (k17 : PySem.W.keepIn K (.ref f17) = true)
    (a18 : PySem.W.nsIn K mainGlobals "_law_is_fraction" = some (some (.ref f18)))
    (l18 : K.lookup f18 = some ⟨oc18, od18, .func (PySem.W.fnOf "_law_is_fraction" "_law_is_fraction" (defArgs (top 27)) (defBody (top 27)) (defScope (top 27)) .none kV18 dc18 pm18 an18 cd18 ct18), sl18⟩)
    (c18 : PySem.W.codeIn K cd18 "_law_is_fraction" = true)
    (k18 : PySem.W.keepIn K (.ref f18) = true)
    (a19 : PySem.W.nsIn K mainGlobals "_law_equal" = some (some (.ref f19)))
    (l19 : K.lookup f19 = some ⟨oc19, od19, .func (PySem.W.fnOf "_law_equal" "_law_equal" (defArgs (top 28)) (defBody (top 28)) (defScope (top 28)) .none kV19 dc19 pm19 an19 cd19 ct19), sl19⟩)
    (c19 : PySem.W.codeIn K cd19 "_law_equal" = true)
    (k19 : PySem.W.keepIn K (.ref f19) = true)
    (a20 : PySem.W.nsIn K mainGlobals "_law_integer" = some (some (.ref f20)))
    (l20 : K.lookup f20 = some ⟨oc20, od20, .func (PySem.W.fnOf "_law_integer" "_law_integer" (defArgs (top 29)) (defBody (top 29)) (defScope (top 29)) .none kV20 dc20 pm20 an20 cd20 ct20), sl20⟩)
    (c20 : PySem.W.codeIn K cd20 "_law_integer" = true)
    (k20 : PySem.W.keepIn K (.ref f20) = true)
    (a21 : PySem.W.nsIn K mainGlobals "_law_part" = some (some (.ref f21)))
    (l21 : K.lookup f21 = some ⟨oc21, od21, .func (PySem.W.fnOf "_law_part" "_law_part" (defArgs (top 30)) (defBody (top 30)) (defScope (top 30)) .none kV21 dc21 pm21 an21 cd21 ct21), sl21⟩)
    (c21 : PySem.W.codeIn K cd21 "_law_part" = true)
    (k21 : PySem.W.keepIn K (.ref f21) = true)
    (a22 : PySem.W.nsIn K mainGlobals "_law_odd" = some (some (.ref f22)))
    (l22 : K.lookup f22 = some ⟨oc22, od22, .func (PySem.W.fnOf "_law_odd" "_law_odd" (defArgs (top 31)) (defBody (top 31)) (defScope (top 31)) .none kV22 dc22 pm22 an22 cd22 ct22), sl22⟩)
    (c22 : PySem.W.codeIn K cd22 "_law_odd" = true)
    (k22 : PySem.W.keepIn K (.ref f22) = true)
    (a23 : PySem.W.nsIn K mainGlobals "_law_heard" = some (some (.ref f23)))
    (l23 : K.lookup f23 = some ⟨oc23, od23, .func (PySem.W.fnOf "_law_heard" "_law_heard" (defArgs (top 32)) (defBody (top 32)) (defScope (top 32)) .none kV23 dc23 pm23 an23 cd23 ct23), sl23⟩)
    (c23 : PySem.W.codeIn K cd23 "_law_heard" = true)
    (k23 : PySem.W.keepIn K (.ref f23) = true)
    (a24 : PySem.W.nsIn K mainGlobals "_law_pair_right" = some (some (.ref f24)))
    (l24 : K.lookup f24 = some ⟨oc24, od24, .func (PySem.W.fnOf "_law_pair_right" "_law_pair_right" (defArgs (top 33)) (defBody (top 33)) (defScope (top 33)) .none kV24 dc24 pm24 an24 (.ref lc24) ct24), sl24⟩)
    (c24 : PySem.W.codeIn K (.ref lc24) "_law_pair_right" = true)
    (k24 : PySem.W.keepIn K (.ref f24) = true)
    (a25 : PySem.W.nsIn K mainGlobals "_law_several_right" = some (some (.ref f25)))
    (l25 : K.lookup f25 = some ⟨oc25, od25, .func (PySem.W.fnOf "_law_several_right" "_law_several_right" (defArgs (top 34)) (defBody (top 34)) (defScope (top 34)) .none kV25 dc25 pm25 an25 (.ref lc25) ct25), sl25⟩)
    (c25 : PySem.W.codeIn K (.ref lc25) "_law_several_right" = true)
    (k25 : PySem.W.keepIn K (.ref f25) = true)
    (a26 : PySem.W.nsIn K mainGlobals "law" = some (some (.ref f26)))
    (l26 : K.lookup f26 = some ⟨oc26, od26, .func (PySem.W.fnOf "law" "law" (defArgs (top 35)) (defBody (top 35)) (defScope (top 35)) .none kV26 dc26 pm26 an26 (.ref lc26) ct26), sl26⟩)
    (c26 : PySem.W.codeIn K (.ref lc26) "law" = true)
    (k26 : PySem.W.keepIn K (.ref f26) = true)
    (lk24 : K.lookup lc24 = some ⟨lx24, ly24, .fields lv24, lz24⟩)
    (vl24 : lv24[11]? = some (.ref lp24))
    (hd24 : PySem.W.codeHdIn K lc24 lp24 = true)
    (ot24 : K.lookup lp24 = none)
    (lk25 : K.lookup lc25 = some ⟨lx25, ly25, .fields lv25, lz25⟩)
    (vl25 : lv25[11]? = some (.ref lp25))
    (hd25 : PySem.W.codeHdIn K lc25 lp25 = true)
    (ot25 : K.lookup lp25 = none)
    (lk26 : K.lookup lc26 = some ⟨lx26, ly26, .fields lv26, lz26⟩)
    (vl26 : lv26[11]? = some (.ref lp26))
    (hd26 : PySem.W.codeHdIn K lc26 lp26 = true)
    (ot26 : K.lookup lp26 = none)
    (z0 : PySem.W.nsIn K mainGlobals "abs" = some none)
    (z1 : PySem.W.nsIn K mainGlobals "all" = some none)
    (z2 : PySem.W.nsIn K mainGlobals "bool" = some none)
    (z3 : PySem.W.nsIn K mainGlobals "int" = some none)
    (z4 : PySem.W.nsIn K mainGlobals "isinstance" = some none)
    (z5 : PySem.W.nsIn K mainGlobals "len" = some none)
    (z6 : PySem.W.nsIn K mainGlobals "range" = some none)
    (z7 : PySem.W.nsIn K mainGlobals "repr" = some none)
    (z8 : PySem.W.nsIn K mainGlobals "sum" = some none)
    (z9 : PySem.W.nsIn K mainGlobals "tuple" = some none)
    (z10 : PySem.W.nsIn K mainGlobals "zip" = some none)
    (y0 : PySem.W.nsIn K mainGlobals "ZERO" = some (some (.ref ta0)))
    (yl0 : K.lookup ta0 = some ⟨.type "tuple", td0, .seq #[.int 0 t0_0, .int 1 t0_1] tn0, ts0⟩)
    (y1 : PySem.W.nsIn K mainGlobals "ONE" = some (some (.ref ta1)))
    (yl1 : K.lookup ta1 = some ⟨.type "tuple", td1, .seq #[.int 1 t1_0, .int 1 t1_1] tn1, ts1⟩)
    (sup : PySem.W.nsIn K mainGlobals "super" = some none)
    (opq : PySem.W.nsIn K cStatics "thirdparty.any" = some none)
    (spc : PySem.W.specialIn K (.builtin "object.__class__") "__get__" = some (some (.builtin "getset_descriptor.__get__")))
    (tks : PySem.W.takesIn K (.builtin "object.__class__") = some true)
    (E0x : PySem.W.nsIn K mainGlobals "InvalidNumber" = some (some (.ref E0C)))
    (E0lC : K.lookup E0C = some (excClassObj E0nm E0q E0C E0N E0bs E0bm true E0sn E0sub E0ab E0col E0dd E0k0 E0k1 E0k2 E0k3 E0k5 "ValueError.__new__"))
    (E0hb : PySem.HandSPX.refsVE E0bm = true)
    (E0sa : PySem.W.findIn K (.ref E0C) "__setattr__" = some (some (.builtin "object.__setattr__")))
    (E0ex : PySem.W.subIn K (.ref E0C) (.type "BaseException") = some true)
    (E0ty : PySem.W.typeIn K (.ref E0C) = some (.type "type"))
    (E0kc : PySem.W.keepIn K (.ref E0C) = true)
    (E0iC : PySem.W.findIn K (.ref E0C) "__init__" = some (some (.ref E0f)))
    (E0tI : PySem.W.typeIn K (.ref E0f) = some (.type "function"))
    (E0lk : K.lookup E0f = some ⟨E0oc, E0od, .func (PySem.W.ksFn "__init__" "InvalidNumber.__init__" (defArgs (inClass (top 2) 0)) (defBody (inClass (top 2) 0)) (defScope (inClass (top 2) 0)) .none E0kV E0dc E0pm E0an (.ref E0da) E0ct E0cc), E0sl⟩)
    (E0co : PySem.W.codeIn K (.ref E0da) "InvalidNumber.__init__" = true)
    (E0lc : K.lookup E0da = some ⟨E0ccl, E0cdd, .fields E0vs, E0ccs⟩)
    (E0fi : E0vs[2]? = some (.str PySem.Challenge.pw_allworlds_k01_whole_fractions.main.file E0tf))
    (E0ce : K.lookup E0cc = some ⟨E0cl, E0cld, .cell (some (.ref E0C)), E0csl⟩)
    (E0cl : PySem.W.clsIn K E0C = some E0cd)
    (E0mr : PySem.W.mroIn K E0C (.ref E0C) = some true)
    (E0al : PySem.W.alongIn K "__init__" ((E0cd.mro.dropWhile (· != (.ref E0C))).drop 1) = some (some (.builtin "ValueError.__init__")))
    (E0va : PySem.W.subIn K (.ref E0C) (.type "ValueError") = some true)
    (E0nword : PySem.W.findIn K (.ref E0C) "word" = some none)
    (E0ga : PySem.W.findIn K (.ref E0C) "__getattribute__" = some (some (.builtin "BaseException.__getattribute__")))
    (E0gk : PySem.W.findIn K (.ref E0C) "__getattr__" = some none)
    (E0hd : PySem.W.hasDictIn K E0C = true)
    (E0ha : PySem.W.findIn K (.ref E0C) "__class__" = some (some (.builtin "object.__class__")))
    (E0hm : PySem.W.mroIn K E0C (.type "object") = some true)
    (E1x : PySem.W.nsIn K mainGlobals "Refused" = some (some (.ref E1C)))
    (E1lC : K.lookup E1C = some (excClassObj E1nm E1q E1C E1N E1bs E1bm true E1sn E1sub E1ab E1col E1dd E1k0 E1k1 E1k2 E1k3 E1k5 "ValueError.__new__"))
    (E1hb : PySem.HandSPX.refsVE E1bm = true)
    (E1sa : PySem.W.findIn K (.ref E1C) "__setattr__" = some (some (.builtin "object.__setattr__")))
    (E1ex : PySem.W.subIn K (.ref E1C) (.type "BaseException") = some true)
    (E1ty : PySem.W.typeIn K (.ref E1C) = some (.type "type"))
    (E1kc : PySem.W.keepIn K (.ref E1C) = true)
    (E1iC : PySem.W.findIn K (.ref E1C) "__init__" = some (some (.ref E1f)))
    (E1tI : PySem.W.typeIn K (.ref E1f) = some (.type "function"))
    (E1lk : K.lookup E1f = some ⟨E1oc, E1od, .func (PySem.W.ksFn "__init__" "Refused.__init__" (defArgs (inClass (top 3) 0)) (defBody (inClass (top 3) 0)) (defScope (inClass (top 3) 0)) .none E1kV E1dc E1pm E1an (.ref E1da) E1ct E1cc), E1sl⟩)
    (E1co : PySem.W.codeIn K (.ref E1da) "Refused.__init__" = true)
    (E1lc : K.lookup E1da = some ⟨E1ccl, E1cdd, .fields E1vs, E1ccs⟩)
    (E1fi : E1vs[2]? = some (.str PySem.Challenge.pw_allworlds_k01_whole_fractions.main.file E1tf))
    (E1ce : K.lookup E1cc = some ⟨E1cl, E1cld, .cell (some (.ref E1C)), E1csl⟩)
    (E1cl : PySem.W.clsIn K E1C = some E1cd)
    (E1mr : PySem.W.mroIn K E1C (.ref E1C) = some true)
    (E1al : PySem.W.alongIn K "__init__" ((E1cd.mro.dropWhile (· != (.ref E1C))).drop 1) = some (some (.builtin "ValueError.__init__")))
    (E1va : PySem.W.subIn K (.ref E1C) (.type "ValueError") = some true)
    (E1nword : PySem.W.findIn K (.ref E1C) "word" = some none)
    (E1ga : PySem.W.findIn K (.ref E1C) "__getattribute__" = some (some (.builtin "BaseException.__getattribute__")))
    (E1gk : PySem.W.findIn K (.ref E1C) "__getattr__" = some none)
    (E1hd : PySem.W.hasDictIn K E1C = true)
    (E1ha : PySem.W.findIn K (.ref E1C) "__class__" = some (some (.builtin "object.__class__")))
    (E1hm : PySem.W.mroIn K E1C (.type "object") = some true)
    (X0s0 : PySem.W.subIn K (.ref E0C) (.ref E1C) = some false)
    (X0k0 : PySem.W.kitOne K (.ref E0C) (.ref E1C) = some false)
    (X0s1 : PySem.W.subIn K (.ref E1C) (.ref E1C) = some true)
    (X0k1 : PySem.W.kitOne K (.ref E1C) (.ref E1C) = some true)
    (X1x : PySem.W.nsIn K mainGlobals "NetError" = some (some (.ref X1D)))
    (X1ex : PySem.W.subIn K (.ref X1D) (.type "BaseException") = some true)
    (X1hd : PySem.W.hasDictIn K X1D = true)
    (X1ty : PySem.W.typeIn K (.ref X1D) = some (.type "type"))
    (X1s0 : PySem.W.subIn K (.ref E0C) (.ref X1D) = some true)
    (X1k0 : PySem.W.kitOne K (.ref E0C) (.ref X1D) = some true)
    (X1s1 : PySem.W.subIn K (.ref E1C) (.ref X1D) = some true)
    (X1k1 : PySem.W.kitOne K (.ref E1C) (.ref X1D) = some true)
    (X2s0 : PySem.W.subIn K (.ref E0C) (.ref E0C) = some true)
    (X2k0 : PySem.W.kitOne K (.ref E0C) (.ref E0C) = some true)
    (X2s1 : PySem.W.subIn K (.ref E1C) (.ref E0C) = some false)
    (X2k1 : PySem.W.kitOne K (.ref E1C) (.ref E0C) = some false)
    (cls0 : TabList.cls 0 = E0C) (cls1 : TabList.cls 1 = E1C) (mT24 : (lp24, (("_law_pair_right" : Str) ++ ".<locals>." ++ "<lambda>")) ∈ TabList.T) (mT25 : (lp25, (("_law_several_right" : Str) ++ ".<locals>." ++ "<lambda>")) ∈ TabList.T) (mT26 : (lp26, (("law" : Str) ++ ".<locals>." ++ "<lambda>")) ∈ TabList.T) (nd : (TabList.T.map (·.1)).Nodup) : Mo K mg := by
  have E0exc : ExcC K E0C := ⟨E0ga, E0gk, E0ex, E0hd, E0ha, spc, tks, E0hm⟩
  have E0oex : OexC K E0C := oexC_mk E0lC E0hb E0sa E0ex E0ty E0kc
  have E1exc : ExcC K E1C := ⟨E1ga, E1gk, E1ex, E1hd, E1ha, spc, tks, E1hm⟩
  have E1oex : OexC K E1C := oexC_mk E1lC E1hb E1sa E1ex E1ty E1kc
  exact ⟨⟨f0, _, fun_mk l0 c0 k0, PySem.W.mg_of X G a0, (fun s us hl => match us, hl with | [_], _ => .of_eq rfl), (fun q hq => nomatch hq)⟩,
    ⟨f1, _, fun_mk l1 c1 k1, PySem.W.mg_of X G a1, (fun s us hl => match us, hl with | [_, _], _ => .of_eq rfl), (fun q hq => nomatch hq)⟩,
    ⟨f2, _, fun_mk l2 c2 k2, PySem.W.mg_of X G a2, (fun s us hl => match us, hl with | [_], _ => .of_eq rfl), (List.forall_mem_cons.mpr ⟨⟨fun s us ws ys _ hn hk hp => match us, hn, ws, hk, hp with | [], _, [w0], _, hp => by cases hp; exact .of_eq rfl⟩, (fun q hq => nomatch hq)⟩)⟩,
    ⟨f3, _, fun_mk l3 c3 k3, PySem.W.mg_of X G a3, (fun s us hl => match us, hl with | [_, _], _ => .of_eq rfl), (List.forall_mem_cons.mpr ⟨⟨fun s us ws ys _ hn hk hp => match us, hn, ws, hk, hp with | [], _, [w0, w1], _, hp => by cases hp; exact .of_eq rfl⟩, (fun q hq => nomatch hq)⟩)⟩,
    ⟨f4, _, fun_mk l4 c4 k4, PySem.W.mg_of X G a4, (fun s us hl => match us, hl with | [_], _ => .of_eq rfl), (List.forall_mem_cons.mpr ⟨⟨fun s us ws ys _ hn hk hp => match us, hn, ws, hk, hp with | [], _, [w0], _, hp => by cases hp; exact .of_eq rfl⟩, (fun q hq => nomatch hq)⟩)⟩,
    ⟨f5, _, fun_mk l5 c5 k5, PySem.W.mg_of X G a5, (fun s us hl => match us, hl with | [_, _], _ => .of_eq rfl), (List.forall_mem_cons.mpr ⟨⟨fun s us ws ys _ hn hk hp => match us, hn, ws, hk, hp with | [], _, [w0, w1], _, hp => by cases hp; exact .of_eq rfl⟩, (fun q hq => nomatch hq)⟩)⟩,
    ⟨f6, _, fun_mk l6 c6 k6, PySem.W.mg_of X G a6, (fun s us hl => match us, hl with | [_, _], _ => .of_eq rfl), (List.forall_mem_cons.mpr ⟨⟨fun s us ws ys _ hn hk hp => match us, hn, ws, hk, hp with | [], _, [w0, w1], _, hp => by cases hp; exact .of_eq rfl⟩, (fun q hq => nomatch hq)⟩)⟩,
    ⟨f7, _, fun_mk l7 c7 k7, PySem.W.mg_of X G a7, (fun s us hl => match us, hl with | [_, _], _ => .of_eq rfl), (List.forall_mem_cons.mpr ⟨⟨fun s us ws ys _ hn hk hp => match us, hn, ws, hk, hp with | [], _, [w0, w1], _, hp => by cases hp; exact .of_eq rfl⟩, (fun q hq => nomatch hq)⟩)⟩,
    ⟨f8, _, fun_mk l8 c8 k8, PySem.W.mg_of X G a8, (fun s us hl => match us, hl with | [_, _], _ => .of_eq rfl), (List.forall_mem_cons.mpr ⟨⟨fun s us ws ys _ hn hk hp => match us, hn, ws, hk, hp with | [], _, [w0, w1], _, hp => by cases hp; exact .of_eq rfl⟩, (fun q hq => nomatch hq)⟩)⟩,
    ⟨f9, _, fun_mk l9 c9 k9, PySem.W.mg_of X G a9, (fun s us hl => match us, hl with | [_, _], _ => .of_eq rfl), (List.forall_mem_cons.mpr ⟨⟨fun s us ws ys _ hn hk hp => match us, hn, ws, hk, hp with | [], _, [w0, w1], _, hp => by cases hp; exact .of_eq rfl⟩, (fun q hq => nomatch hq)⟩)⟩,
    ⟨f10, _, fun_mk l10 c10 k10, PySem.W.mg_of X G a10, (fun s us hl => match us, hl with | [_], _ => .of_eq rfl), (List.forall_mem_cons.mpr ⟨⟨fun s us ws ys _ hn hk hp => match us, hn, ws, hk, hp with | [], _, [w0], _, hp => by cases hp; exact .of_eq rfl⟩, (fun q hq => nomatch hq)⟩)⟩,
    ⟨f11, _, fun_mk l11 c11 k11, PySem.W.mg_of X G a11, (fun s us hl => match us, hl with | [_], _ => .of_eq rfl), (List.forall_mem_cons.mpr ⟨⟨fun s us ws ys _ hn hk hp => match us, hn, ws, hk, hp with | [], _, [w0], _, hp => by cases hp; exact .of_eq rfl⟩, (fun q hq => nomatch hq)⟩)⟩,
    ⟨f12, _, fun_mk l12 c12 k12, PySem.W.mg_of X G a12, (fun s us hl => match us, hl with | [_], _ => .of_eq rfl), (List.forall_mem_cons.mpr ⟨⟨fun s us ws ys _ hn hk hp => match us, hn, ws, hk, hp with | [], _, [w0], _, hp => by cases hp; exact .of_eq rfl⟩, (fun q hq => nomatch hq)⟩)⟩,
    ⟨f13, _, fun_mk l13 c13 k13, PySem.W.mg_of X G a13, (fun s us hl => match us, hl with | [_], _ => .of_eq rfl), (fun q hq => nomatch hq)⟩,
    ⟨f14, _, fun_mk l14 c14 k14, PySem.W.mg_of X G a14, (fun s us hl => match us, hl with | [_, _], _ => .of_eq rfl), (fun q hq => nomatch hq)⟩,
    ⟨f15, _, fun_mk l15 c15 k15, PySem.W.mg_of X G a15, (fun s us hl => match us, hl with | [_, _], _ => .of_eq rfl), (fun q hq => nomatch hq)⟩,
    ⟨f16, _, fun_mk l16 c16 k16, PySem.W.mg_of X G a16, (fun s us hl => match us, hl with | [_, _], _ => .of_eq rfl), (fun q hq => nomatch hq)⟩,
    ⟨f17, _, fun_mk l17 c17 k17, PySem.W.mg_of X G a17, (fun s us hl => match us, hl with | [_], _ => .of_eq rfl), (fun q hq => nomatch hq)⟩,
    ⟨f18, _, fun_mk l18 c18 k18, PySem.W.mg_of X G a18, (fun s us hl => match us, hl with | [_], _ => .of_eq rfl), (fun q hq => nomatch hq)⟩,
    ⟨f19, _, fun_mk l19 c19 k19, PySem.W.mg_of X G a19, (fun s us hl => match us, hl with | [_, _, _], _ => .of_eq rfl), (fun q hq => nomatch hq)⟩,
    ⟨f20, _, fun_mk l20 c20 k20, PySem.W.mg_of X G a20, (fun s us hl => match us, hl with | [_], _ => .of_eq rfl), (fun q hq => nomatch hq)⟩,
    ⟨f21, _, fun_mk l21 c21 k21, PySem.W.mg_of X G a21, (fun s us hl => match us, hl with | [_], _ => .of_eq rfl), (fun q hq => nomatch hq)⟩,
    ⟨f22, _, fun_mk l22 c22 k22, PySem.W.mg_of X G a22, (fun s us hl => match us, hl with | [_, _], _ => .of_eq rfl), (fun q hq => nomatch hq)⟩,
    ⟨f23, _, _, _, _, _, _, _, _, _, _, PySem.W.mg_of X G a23, k23, l23, c23, binds_of (ps := ["_law_action"]) fun s us hl => match us, hl with | [_], _ => .of_eq rfl⟩,
    ⟨f24, _, fun_mk l24 c24 k24, PySem.W.mg_of X G a24, (fun s us hl => match us, hl with | [_, _], _ => .of_eq rfl), (fun q hq => nomatch hq), lc24, lp24, rfl, hd24, mT24, uniq_of nd mT24⟩,
    ⟨f25, _, fun_mk l25 c25 k25, PySem.W.mg_of X G a25, (fun s us hl => match us, hl with | [_, _], _ => .of_eq rfl), (fun q hq => nomatch hq), lc25, lp25, rfl, hd25, mT25, uniq_of nd mT25⟩,
    ⟨f26, _, fun_mk l26 c26 k26, PySem.W.mg_of X G a26, (fun s us hl => match us, hl with | [_], _ => .of_eq rfl), (fun q hq => nomatch hq), lc26, lp26, rfl, hd26, mT26, uniq_of nd mT26⟩,
    List.forall_mem_cons.mpr ⟨PySem.W.mg_none_of X G z0, List.forall_mem_cons.mpr ⟨PySem.W.mg_none_of X G z1, List.forall_mem_cons.mpr ⟨PySem.W.mg_none_of X G z2, List.forall_mem_cons.mpr ⟨PySem.W.mg_none_of X G z3, List.forall_mem_cons.mpr ⟨PySem.W.mg_none_of X G z4, List.forall_mem_cons.mpr ⟨PySem.W.mg_none_of X G z5, List.forall_mem_cons.mpr ⟨PySem.W.mg_none_of X G z6, List.forall_mem_cons.mpr ⟨PySem.W.mg_none_of X G z7, List.forall_mem_cons.mpr ⟨PySem.W.mg_none_of X G z8, List.forall_mem_cons.mpr ⟨PySem.W.mg_none_of X G z9, List.forall_mem_cons.mpr ⟨PySem.W.mg_none_of X G z10, (fun x hx => nomatch hx)⟩⟩⟩⟩⟩⟩⟩⟩⟩⟩⟩,
    List.forall_mem_cons.mpr ⟨tup_const (is := [0, 1]) (PySem.W.mg_of X G y0) yl0 (.cons ⟨_, rfl⟩ (.cons ⟨_, rfl⟩ (.nil))) (by simp [sizeLine_eq]), List.forall_mem_cons.mpr ⟨tup_const (is := [1, 1]) (PySem.W.mg_of X G y1) yl1 (.cons ⟨_, rfl⟩ (.cons ⟨_, rfl⟩ (.nil))) (by simp [sizeLine_eq]), (fun x hx => nomatch hx)⟩⟩,
    fun w base k hk => errAt_mk (C := E0C) cls0 (PySem.W.mg_of X G E0x) E0oex E0iC E0tI (params := defArgs (inClass (top 2) 0)) (sc := defScope (inClass (top 2) 0)) ⟨⟨_, _, _, _, _, _, _, _, _, rfl, E0lk⟩, E0co, ⟨_, _, _, _, _, E0lc, E0fi⟩, ⟨_, _, _, E0ce⟩, ⟨_, E0cl, E0mr, E0al⟩, PySem.W.mg_none_of X G sup, rfl, opq, E0va, E0oex, by constructor <;> first | rfl | decide +kernel, ⟨_, rfl, rfl⟩⟩ (by decide +kernel) (by decide) (by decide +kernel) (List.forall_mem_cons.mpr ⟨E0nword, (fun p hp => nomatch hp)⟩) (by decide) (binds_of (ps := ["self", "word"]) fun s us hl => match us, hl with | [_, _], _ => .of_eq rfl) rfl hk,
    fun w base k hk => errAt_mk (C := E1C) cls1 (PySem.W.mg_of X G E1x) E1oex E1iC E1tI (params := defArgs (inClass (top 3) 0)) (sc := defScope (inClass (top 3) 0)) ⟨⟨_, _, _, _, _, _, _, _, _, rfl, E1lk⟩, E1co, ⟨_, _, _, _, _, E1lc, E1fi⟩, ⟨_, _, _, E1ce⟩, ⟨_, E1cl, E1mr, E1al⟩, PySem.W.mg_none_of X G sup, rfl, opq, E1va, E1oex, by constructor <;> first | rfl | decide +kernel, ⟨_, rfl, rfl⟩⟩ (by decide +kernel) (by decide) (by decide +kernel) (List.forall_mem_cons.mpr ⟨E1nword, (fun p hp => nomatch hp)⟩) (by decide) (binds_of (ps := ["self", "word"]) fun s us hl => match us, hl with | [_, _], _ => .of_eq rfl) rfl hk,
    List.forall_mem_cons.mpr ⟨⟨E1C, PySem.W.mg_of X G E1x, among_of (F := fun c b => ExcC K (TabList.cls c) ∧ PySem.W.exmOne K (.ref (TabList.cls c)) (.ref E1C) = some b ∧ PySem.W.kitOne K (.ref (TabList.cls c)) (.ref E1C) = some b) (List.forall_mem_cons.mpr ⟨(by rw [cls1]; exact ⟨E1exc, PySem.W.exm_ref E1ex E1hd E1ty X0s1, X0k1⟩), (fun c hc => nomatch hc)⟩) (List.forall_mem_cons.mpr ⟨(by rw [cls0]; exact ⟨E0exc, PySem.W.exm_ref E1ex E1hd E1ty X0s0, X0k0⟩), (fun c hc => nomatch hc)⟩)⟩, List.forall_mem_cons.mpr ⟨⟨X1D, PySem.W.mg_of X G X1x, among_of (F := fun c b => ExcC K (TabList.cls c) ∧ PySem.W.exmOne K (.ref (TabList.cls c)) (.ref X1D) = some b ∧ PySem.W.kitOne K (.ref (TabList.cls c)) (.ref X1D) = some b) (List.forall_mem_cons.mpr ⟨(by rw [cls0]; exact ⟨E0exc, PySem.W.exm_ref X1ex X1hd X1ty X1s0, X1k0⟩), List.forall_mem_cons.mpr ⟨(by rw [cls1]; exact ⟨E1exc, PySem.W.exm_ref X1ex X1hd X1ty X1s1, X1k1⟩), (fun c hc => nomatch hc)⟩⟩) ((fun c hc => nomatch hc))⟩, List.forall_mem_cons.mpr ⟨⟨E0C, PySem.W.mg_of X G E0x, among_of (F := fun c b => ExcC K (TabList.cls c) ∧ PySem.W.exmOne K (.ref (TabList.cls c)) (.ref E0C) = some b ∧ PySem.W.kitOne K (.ref (TabList.cls c)) (.ref E0C) = some b) (List.forall_mem_cons.mpr ⟨(by rw [cls0]; exact ⟨E0exc, PySem.W.exm_ref E0ex E0hd E0ty X2s0, X2k0⟩), (fun c hc => nomatch hc)⟩) (List.forall_mem_cons.mpr ⟨(by rw [cls1]; exact ⟨E1exc, PySem.W.exm_ref E0ex E0hd E0ty X2s1, X2k1⟩), (fun c hc => nomatch hc)⟩)⟩, (fun p hp => nomatch hp)⟩⟩⟩,
    List.forall_mem_cons.mpr ⟨List.forall_mem_cons.mpr ⟨(by rw [cls1]; exact ⟨E1exc, E1nword⟩), (fun c hc => nomatch hc)⟩, List.forall_mem_cons.mpr ⟨List.forall_mem_cons.mpr ⟨(by rw [cls0]; exact ⟨E0exc, E0nword⟩), (fun c hc => nomatch hc)⟩, (fun p hp => nomatch hp)⟩⟩⟩
end
set_option maxHeartbeats 0 in
theorem law_all {K : PySem.W.Frag} {mg : Str → Option Value} {h : PySem.Heap} {fa : Addr} {w : World} {q : Program} (X : K.In h) (G : h.Ns mainGlobals mg) (hmg : mg "law" = some (.ref fa)) (answers : ∀ ns : List Int, ns.length ≤ 63 → ∃ h, G26 [.lst (ns.map D.int)] [] = some (.ok (.bl true) h))
    {f0 : Addr}
    {od0 an0 : Option Addr}
    {sl0 : Array (Option Value)}
    {oc0 kV0 dc0 pm0 ct0 : Value}
    {cd0 : Value}
    {f1 : Addr}
    {od1 an1 : Option Addr}
    {sl1 : Array (Option Value)}
    {oc1 kV1 dc1 pm1 ct1 : Value}
    {cd1 : Value}
    {f2 : Addr}
    {od2 an2 : Option Addr}
    {sl2 : Array (Option Value)}
    {oc2 kV2 dc2 pm2 ct2 : Value}
    {cd2 : Value}
    {f3 : Addr}
    {od3 an3 : Option Addr}
    {sl3 : Array (Option Value)}
    {oc3 kV3 dc3 pm3 ct3 : Value}
    {cd3 : Value}
    {f4 : Addr}
    {od4 an4 : Option Addr}
    {sl4 : Array (Option Value)}
    {oc4 kV4 dc4 pm4 ct4 : Value}
    {cd4 : Value}
    {f5 : Addr}
    {od5 an5 : Option Addr}
    {sl5 : Array (Option Value)}
    {oc5 kV5 dc5 pm5 ct5 : Value}
    {cd5 : Value}
    {f6 : Addr}
    {od6 an6 : Option Addr}
    {sl6 : Array (Option Value)}
    {oc6 kV6 dc6 pm6 ct6 : Value}
    {cd6 : Value}
    {f7 : Addr}
    {od7 an7 : Option Addr}
    {sl7 : Array (Option Value)}
    {oc7 kV7 dc7 pm7 ct7 : Value}
    {cd7 : Value}
    {f8 : Addr}
    {od8 an8 : Option Addr}
    {sl8 : Array (Option Value)}
    {oc8 kV8 dc8 pm8 ct8 : Value}
    {cd8 : Value}
    {f9 : Addr}
    {od9 an9 : Option Addr}
    {sl9 : Array (Option Value)}
    {oc9 kV9 dc9 pm9 ct9 : Value}
    {cd9 : Value}
    {f10 : Addr}
    {od10 an10 : Option Addr}
    {sl10 : Array (Option Value)}
    {oc10 kV10 dc10 pm10 ct10 : Value}
    {cd10 : Value}
    {f11 : Addr}
    {od11 an11 : Option Addr}
    {sl11 : Array (Option Value)}
    {oc11 kV11 dc11 pm11 ct11 : Value}
    {cd11 : Value}
    {f12 : Addr}
    {od12 an12 : Option Addr}
    {sl12 : Array (Option Value)}
    {oc12 kV12 dc12 pm12 ct12 : Value}
    {cd12 : Value}
    {f13 : Addr}
    {od13 an13 : Option Addr}
    {sl13 : Array (Option Value)}
    {oc13 kV13 dc13 pm13 ct13 : Value}
    {cd13 : Value}
    {f14 : Addr}
    {od14 an14 : Option Addr}
    {sl14 : Array (Option Value)}
    {oc14 kV14 dc14 pm14 ct14 : Value}
    {cd14 : Value}
    {f15 : Addr}
    {od15 an15 : Option Addr}
    {sl15 : Array (Option Value)}
    {oc15 kV15 dc15 pm15 ct15 : Value}
    {cd15 : Value}
    {f16 : Addr}
    {od16 an16 : Option Addr}
    {sl16 : Array (Option Value)}
    {oc16 kV16 dc16 pm16 ct16 : Value}
    {cd16 : Value}
    {f17 : Addr}
    {od17 an17 : Option Addr}
    {sl17 : Array (Option Value)}
    {oc17 kV17 dc17 pm17 ct17 : Value}
    {cd17 : Value}
    {f18 : Addr}
    {od18 an18 : Option Addr}
    {sl18 : Array (Option Value)}
    {oc18 kV18 dc18 pm18 ct18 : Value}
    {cd18 : Value}
    {f19 : Addr}
    {od19 an19 : Option Addr}
    {sl19 : Array (Option Value)}
    {oc19 kV19 dc19 pm19 ct19 : Value}
    {cd19 : Value}
    {f20 : Addr}
    {od20 an20 : Option Addr}
    {sl20 : Array (Option Value)}
    {oc20 kV20 dc20 pm20 ct20 : Value}
    {cd20 : Value}
    {f21 : Addr}
    {od21 an21 : Option Addr}
    {sl21 : Array (Option Value)}
    {oc21 kV21 dc21 pm21 ct21 : Value}
    {cd21 : Value}
    {f22 : Addr}
    {od22 an22 : Option Addr}
    {sl22 : Array (Option Value)}
    {oc22 kV22 dc22 pm22 ct22 : Value}
    {cd22 : Value}
    {f23 : Addr}
    {od23 an23 : Option Addr}
    {sl23 : Array (Option Value)}
    {oc23 kV23 dc23 pm23 ct23 : Value}
    {cd23 : Value}
    {f24 : Addr}
    {od24 an24 : Option Addr}
    {sl24 : Array (Option Value)}
    {oc24 kV24 dc24 pm24 ct24 : Value}
    {lc24 lp24 : Addr}
    {f25 : Addr}
    {od25 an25 : Option Addr}
    {sl25 : Array (Option Value)}
    {oc25 kV25 dc25 pm25 ct25 : Value}
    {lc25 lp25 : Addr}
    {f26 : Addr}
    {od26 an26 : Option Addr}
    {sl26 : Array (Option Value)}
    {oc26 kV26 dc26 pm26 ct26 : Value}
    {lc26 lp26 : Addr}
    {lx24 : Value}
    {ly24 : Option Addr}
    {lz24 : Array (Option Value)}
    {lv24 : Array Value}
    {lx25 : Value}
    {ly25 : Option Addr}
    {lz25 : Array (Option Value)}
    {lv25 : Array Value}
    {lx26 : Value}
    {ly26 : Option Addr}
    {lz26 : Array (Option Value)}
    {lv26 : Array Value}
    {t0_0 t0_1 : Tok}
    {ta0 : Addr}
    {td0 : Option Addr}
    {tn0 : Nat}
    {ts0 : Array (Option Value)}
    {t1_0 t1_1 : Tok}
    {ta1 : Addr}
    {td1 : Option Addr}
    {tn1 : Nat}
    {ts1 : Array (Option Value)}
    {E0C E0N E0f E0da E0cc : Addr}
    {E0nm E0q : Str}
    {E0bs E0bm E0sub : List Value}
    {E0sn : List Str}
    {E0ab : Bool}
    {E0col : Option Bool}
    {E0dd E0od E0an E0cdd E0cld : Option Addr}
    {E0k0 E0k1 E0k2 E0k3 E0k5 : Option Value}
    {E0oc E0kV E0dc E0pm E0ct E0ccl E0cl : Value}
    {E0sl E0ccs E0csl : Array (Option Value)}
    {E0vs : Array Value}
    {E0tf : Tok}
    {E0cd : ClassData}
    {E1C E1N E1f E1da E1cc : Addr}
    {E1nm E1q : Str}
    {E1bs E1bm E1sub : List Value}
    {E1sn : List Str}
    {E1ab : Bool}
    {E1col : Option Bool}
    {E1dd E1od E1an E1cdd E1cld : Option Addr}
    {E1k0 E1k1 E1k2 E1k3 E1k5 : Option Value}
    {E1oc E1kV E1dc E1pm E1ct E1ccl E1cl : Value}
    {E1sl E1ccs E1csl : Array (Option Value)}
    {E1vs : Array Value}
    {E1tf : Tok}
    {E1cd : ClassData}
    {X1D : Addr}
    (a0 : PySem.W.nsIn K mainGlobals "is_integer" = some (some (.ref f0)))
    (l0 : K.lookup f0 = some ⟨oc0, od0, .func (PySem.W.fnOf "is_integer" "is_integer" (defArgs (top 5)) (defBody (top 5)) (defScope (top 5)) .none kV0 dc0 pm0 an0 cd0 ct0), sl0⟩)
    (c0 : PySem.W.codeIn K cd0 "is_integer" = true)
    (k0 : PySem.W.keepIn K (.ref f0) = true)
    (a1 : PySem.W.nsIn K mainGlobals "shared_divisor" = some (some (.ref f1)))
    (l1 : K.lookup f1 = some ⟨oc1, od1, .func (PySem.W.fnOf "shared_divisor" "shared_divisor" (defArgs (top 9)) (defBody (top 9)) (defScope (top 9)) .none kV1 dc1 pm1 an1 cd1 ct1), sl1⟩)
    (c1 : PySem.W.codeIn K cd1 "shared_divisor" = true)
    (k1 : PySem.W.keepIn K (.ref f1) = true)
    (a2 : PySem.W.nsIn K mainGlobals "common_bottom" = some (some (.ref f2)))
    (l2 : K.lookup f2 = some ⟨oc2, od2, .func (PySem.W.fnOf "common_bottom" "common_bottom" (defArgs (top 10)) (defBody (top 10)) (defScope (top 10)) .none kV2 dc2 pm2 an2 cd2 ct2), sl2⟩)
    (c2 : PySem.W.codeIn K cd2 "common_bottom" = true)
    (k2 : PySem.W.keepIn K (.ref f2) = true)
    (a3 : PySem.W.nsIn K mainGlobals "fraction_of" = some (some (.ref f3)))
    (l3 : K.lookup f3 = some ⟨oc3, od3, .func (PySem.W.fnOf "fraction_of" "fraction_of" (defArgs (top 11)) (defBody (top 11)) (defScope (top 11)) .none kV3 dc3 pm3 an3 cd3 ct3), sl3⟩)
    (c3 : PySem.W.codeIn K cd3 "fraction_of" = true)
    (k3 : PySem.W.keepIn K (.ref f3) = true)
    (a4 : PySem.W.nsIn K mainGlobals "is_fraction" = some (some (.ref f4)))
    (l4 : K.lookup f4 = some ⟨oc4, od4, .func (PySem.W.fnOf "is_fraction" "is_fraction" (defArgs (top 12)) (defBody (top 12)) (defScope (top 12)) .none kV4 dc4 pm4 an4 cd4 ct4), sl4⟩)
    (c4 : PySem.W.codeIn K cd4 "is_fraction" = true)
    (k4 : PySem.W.keepIn K (.ref f4) = true)
    (a5 : PySem.W.nsIn K mainGlobals "added" = some (some (.ref f5)))
    (l5 : K.lookup f5 = some ⟨oc5, od5, .func (PySem.W.fnOf "added" "added" (defArgs (top 13)) (defBody (top 13)) (defScope (top 13)) .none kV5 dc5 pm5 an5 cd5 ct5), sl5⟩)
    (c5 : PySem.W.codeIn K cd5 "added" = true)
    (k5 : PySem.W.keepIn K (.ref f5) = true)
    (a6 : PySem.W.nsIn K mainGlobals "taken" = some (some (.ref f6)))
    (l6 : K.lookup f6 = some ⟨oc6, od6, .func (PySem.W.fnOf "taken" "taken" (defArgs (top 14)) (defBody (top 14)) (defScope (top 14)) .none kV6 dc6 pm6 an6 cd6 ct6), sl6⟩)
    (c6 : PySem.W.codeIn K cd6 "taken" = true)
    (k6 : PySem.W.keepIn K (.ref f6) = true)
    (a7 : PySem.W.nsIn K mainGlobals "timed" = some (some (.ref f7)))
    (l7 : K.lookup f7 = some ⟨oc7, od7, .func (PySem.W.fnOf "timed" "timed" (defArgs (top 15)) (defBody (top 15)) (defScope (top 15)) .none kV7 dc7 pm7 an7 cd7 ct7), sl7⟩)
    (c7 : PySem.W.codeIn K cd7 "timed" = true)
    (k7 : PySem.W.keepIn K (.ref f7) = true)
    (a8 : PySem.W.nsIn K mainGlobals "divided" = some (some (.ref f8)))
    (l8 : K.lookup f8 = some ⟨oc8, od8, .func (PySem.W.fnOf "divided" "divided" (defArgs (top 16)) (defBody (top 16)) (defScope (top 16)) .none kV8 dc8 pm8 an8 cd8 ct8), sl8⟩)
    (c8 : PySem.W.codeIn K cd8 "divided" = true)
    (k8 : PySem.W.keepIn K (.ref f8) = true)
    (a9 : PySem.W.nsIn K mainGlobals "is_less" = some (some (.ref f9)))
    (l9 : K.lookup f9 = some ⟨oc9, od9, .func (PySem.W.fnOf "is_less" "is_less" (defArgs (top 17)) (defBody (top 17)) (defScope (top 17)) .none kV9 dc9 pm9 an9 cd9 ct9), sl9⟩)
    (c9 : PySem.W.codeIn K cd9 "is_less" = true)
    (k9 : PySem.W.keepIn K (.ref f9) = true)
    (a10 : PySem.W.nsIn K mainGlobals "total_of_all" = some (some (.ref f10)))
    (l10 : K.lookup f10 = some ⟨oc10, od10, .func (PySem.W.fnOf "total_of_all" "total_of_all" (defArgs (top 18)) (defBody (top 18)) (defScope (top 18)) .none kV10 dc10 pm10 an10 cd10 ct10), sl10⟩)
    (c10 : PySem.W.codeIn K cd10 "total_of_all" = true)
    (k10 : PySem.W.keepIn K (.ref f10) = true)
    (a11 : PySem.W.nsIn K mainGlobals "product_of_all" = some (some (.ref f11)))
    (l11 : K.lookup f11 = some ⟨oc11, od11, .func (PySem.W.fnOf "product_of_all" "product_of_all" (defArgs (top 19)) (defBody (top 19)) (defScope (top 19)) .none kV11 dc11 pm11 an11 cd11 ct11), sl11⟩)
    (c11 : PySem.W.codeIn K cd11 "product_of_all" = true)
    (k11 : PySem.W.keepIn K (.ref f11) = true)
    (a12 : PySem.W.nsIn K mainGlobals "scaled_to_one" = some (some (.ref f12)))
    (l12 : K.lookup f12 = some ⟨oc12, od12, .func (PySem.W.fnOf "scaled_to_one" "scaled_to_one" (defArgs (top 20)) (defBody (top 20)) (defScope (top 20)) .none kV12 dc12 pm12 an12 cd12 ct12), sl12⟩)
    (c12 : PySem.W.codeIn K cd12 "scaled_to_one" = true)
    (k12 : PySem.W.keepIn K (.ref f12) = true)
    (a13 : PySem.W.nsIn K mainGlobals "_law_heap" = some (some (.ref f13)))
    (l13 : K.lookup f13 = some ⟨oc13, od13, .func (PySem.W.fnOf "_law_heap" "_law_heap" (defArgs (top 22)) (defBody (top 22)) (defScope (top 22)) .none kV13 dc13 pm13 an13 cd13 ct13), sl13⟩)
    (c13 : PySem.W.codeIn K cd13 "_law_heap" = true)
    (k13 : PySem.W.keepIn K (.ref f13) = true)
    (a14 : PySem.W.nsIn K mainGlobals "_law_draw" = some (some (.ref f14)))
    (l14 : K.lookup f14 = some ⟨oc14, od14, .func (PySem.W.fnOf "_law_draw" "_law_draw" (defArgs (top 23)) (defBody (top 23)) (defScope (top 23)) .none kV14 dc14 pm14 an14 cd14 ct14), sl14⟩)
    (c14 : PySem.W.codeIn K cd14 "_law_draw" = true)
    (k14 : PySem.W.keepIn K (.ref f14) = true)
    (a15 : PySem.W.nsIn K mainGlobals "_law_pick" = some (some (.ref f15)))
    (l15 : K.lookup f15 = some ⟨oc15, od15, .func (PySem.W.fnOf "_law_pick" "_law_pick" (defArgs (top 24)) (defBody (top 24)) (defScope (top 24)) .none kV15 dc15 pm15 an15 cd15 ct15), sl15⟩)
    (c15 : PySem.W.codeIn K cd15 "_law_pick" = true)
    (k15 : PySem.W.keepIn K (.ref f15) = true)
    (a16 : PySem.W.nsIn K mainGlobals "_law_divisor" = some (some (.ref f16)))
    (l16 : K.lookup f16 = some ⟨oc16, od16, .func (PySem.W.fnOf "_law_divisor" "_law_divisor" (defArgs (top 25)) (defBody (top 25)) (defScope (top 25)) .none kV16 dc16 pm16 an16 cd16 ct16), sl16⟩)
    (c16 : PySem.W.codeIn K cd16 "_law_divisor" = true)
    (k16 : PySem.W.keepIn K (.ref f16) = true)
    (a17 : PySem.W.nsIn K mainGlobals "_law_is_whole" = some (some (.ref f17)))
    (l17 : K.lookup f17 = some ⟨oc17, od17, .func (PySem.W.fnOf "_law_is_whole" "_law_is_whole" (defArgs (top 26)) (defBody (top 26)) (defScope (top 26)) .none kV17 dc17 pm17 an17 cd17 ct17), sl17⟩)
    (c17 : PySem.W.codeIn K cd17 "_law_is_whole" = true)
    (k17 : PySem.W.keepIn K (.ref f17) = true)
    (a18 : PySem.W.nsIn K mainGlobals "_law_is_fraction" = some (some (.ref f18)))
    (l18 : K.lookup f18 = some ⟨oc18, od18, .func (PySem.W.fnOf "_law_is_fraction" "_law_is_fraction" (defArgs (top 27)) (defBody (top 27)) (defScope (top 27)) .none kV18 dc18 pm18 an18 cd18 ct18), sl18⟩)
    (c18 : PySem.W.codeIn K cd18 "_law_is_fraction" = true)
    (k18 : PySem.W.keepIn K (.ref f18) = true)
    (a19 : PySem.W.nsIn K mainGlobals "_law_equal" = some (some (.ref f19)))
    (l19 : K.lookup f19 = some ⟨oc19, od19, .func (PySem.W.fnOf "_law_equal" "_law_equal" (defArgs (top 28)) (defBody (top 28)) (defScope (top 28)) .none kV19 dc19 pm19 an19 cd19 ct19), sl19⟩)
    (c19 : PySem.W.codeIn K cd19 "_law_equal" = true)
    (k19 : PySem.W.keepIn K (.ref f19) = true)
    (a20 : PySem.W.nsIn K mainGlobals "_law_integer" = some (some (.ref f20)))
    (l20 : K.lookup f20 = some ⟨oc20, od20, .func (PySem.W.fnOf "_law_integer" "_law_integer" (defArgs (top 29)) (defBody (top 29)) (defScope (top 29)) .none kV20 dc20 pm20 an20 cd20 ct20), sl20⟩)
    (c20 : PySem.W.codeIn K cd20 "_law_integer" = true)
    (k20 : PySem.W.keepIn K (.ref f20) = true)
    (a21 : PySem.W.nsIn K mainGlobals "_law_part" = some (some (.ref f21)))
    (l21 : K.lookup f21 = some ⟨oc21, od21, .func (PySem.W.fnOf "_law_part" "_law_part" (defArgs (top 30)) (defBody (top 30)) (defScope (top 30)) .none kV21 dc21 pm21 an21 cd21 ct21), sl21⟩)
    (c21 : PySem.W.codeIn K cd21 "_law_part" = true)
    (k21 : PySem.W.keepIn K (.ref f21) = true)
    (a22 : PySem.W.nsIn K mainGlobals "_law_odd" = some (some (.ref f22)))
    (l22 : K.lookup f22 = some ⟨oc22, od22, .func (PySem.W.fnOf "_law_odd" "_law_odd" (defArgs (top 31)) (defBody (top 31)) (defScope (top 31)) .none kV22 dc22 pm22 an22 cd22 ct22), sl22⟩)
    (c22 : PySem.W.codeIn K cd22 "_law_odd" = true)
    (k22 : PySem.W.keepIn K (.ref f22) = true)
    (a23 : PySem.W.nsIn K mainGlobals "_law_heard" = some (some (.ref f23)))
    (l23 : K.lookup f23 = some ⟨oc23, od23, .func (PySem.W.fnOf "_law_heard" "_law_heard" (defArgs (top 32)) (defBody (top 32)) (defScope (top 32)) .none kV23 dc23 pm23 an23 cd23 ct23), sl23⟩)
    (c23 : PySem.W.codeIn K cd23 "_law_heard" = true)
    (k23 : PySem.W.keepIn K (.ref f23) = true)
    (a24 : PySem.W.nsIn K mainGlobals "_law_pair_right" = some (some (.ref f24)))
    (l24 : K.lookup f24 = some ⟨oc24, od24, .func (PySem.W.fnOf "_law_pair_right" "_law_pair_right" (defArgs (top 33)) (defBody (top 33)) (defScope (top 33)) .none kV24 dc24 pm24 an24 (.ref lc24) ct24), sl24⟩)
    (c24 : PySem.W.codeIn K (.ref lc24) "_law_pair_right" = true)
    (k24 : PySem.W.keepIn K (.ref f24) = true)
    (a25 : PySem.W.nsIn K mainGlobals "_law_several_right" = some (some (.ref f25)))
    (l25 : K.lookup f25 = some ⟨oc25, od25, .func (PySem.W.fnOf "_law_several_right" "_law_several_right" (defArgs (top 34)) (defBody (top 34)) (defScope (top 34)) .none kV25 dc25 pm25 an25 (.ref lc25) ct25), sl25⟩)
    (c25 : PySem.W.codeIn K (.ref lc25) "_law_several_right" = true)
    (k25 : PySem.W.keepIn K (.ref f25) = true)
    (a26 : PySem.W.nsIn K mainGlobals "law" = some (some (.ref f26)))
    (l26 : K.lookup f26 = some ⟨oc26, od26, .func (PySem.W.fnOf "law" "law" (defArgs (top 35)) (defBody (top 35)) (defScope (top 35)) .none kV26 dc26 pm26 an26 (.ref lc26) ct26), sl26⟩)
    (c26 : PySem.W.codeIn K (.ref lc26) "law" = true)
    (k26 : PySem.W.keepIn K (.ref f26) = true)
    (lk24 : K.lookup lc24 = some ⟨lx24, ly24, .fields lv24, lz24⟩)
    (vl24 : lv24[11]? = some (.ref lp24))
    (hd24 : PySem.W.codeHdIn K lc24 lp24 = true)
    (ot24 : K.lookup lp24 = none)
    (lk25 : K.lookup lc25 = some ⟨lx25, ly25, .fields lv25, lz25⟩)
    (vl25 : lv25[11]? = some (.ref lp25))
    (hd25 : PySem.W.codeHdIn K lc25 lp25 = true)
    (ot25 : K.lookup lp25 = none)
    (lk26 : K.lookup lc26 = some ⟨lx26, ly26, .fields lv26, lz26⟩)
    (vl26 : lv26[11]? = some (.ref lp26))
    (hd26 : PySem.W.codeHdIn K lc26 lp26 = true)
    (ot26 : K.lookup lp26 = none)
    (z0 : PySem.W.nsIn K mainGlobals "abs" = some none)
    (z1 : PySem.W.nsIn K mainGlobals "all" = some none)
    (z2 : PySem.W.nsIn K mainGlobals "bool" = some none)
    (z3 : PySem.W.nsIn K mainGlobals "int" = some none)
    (z4 : PySem.W.nsIn K mainGlobals "isinstance" = some none)
    (z5 : PySem.W.nsIn K mainGlobals "len" = some none)
    (z6 : PySem.W.nsIn K mainGlobals "range" = some none)
    (z7 : PySem.W.nsIn K mainGlobals "repr" = some none)
    (z8 : PySem.W.nsIn K mainGlobals "sum" = some none)
    (z9 : PySem.W.nsIn K mainGlobals "tuple" = some none)
    (z10 : PySem.W.nsIn K mainGlobals "zip" = some none)
    (y0 : PySem.W.nsIn K mainGlobals "ZERO" = some (some (.ref ta0)))
    (yl0 : K.lookup ta0 = some ⟨.type "tuple", td0, .seq #[.int 0 t0_0, .int 1 t0_1] tn0, ts0⟩)
    (y1 : PySem.W.nsIn K mainGlobals "ONE" = some (some (.ref ta1)))
    (yl1 : K.lookup ta1 = some ⟨.type "tuple", td1, .seq #[.int 1 t1_0, .int 1 t1_1] tn1, ts1⟩)
    (sup : PySem.W.nsIn K mainGlobals "super" = some none)
    (opq : PySem.W.nsIn K cStatics "thirdparty.any" = some none)
    (spc : PySem.W.specialIn K (.builtin "object.__class__") "__get__" = some (some (.builtin "getset_descriptor.__get__")))
    (tks : PySem.W.takesIn K (.builtin "object.__class__") = some true)
    (E0x : PySem.W.nsIn K mainGlobals "InvalidNumber" = some (some (.ref E0C)))
    (E0lC : K.lookup E0C = some (excClassObj E0nm E0q E0C E0N E0bs E0bm true E0sn E0sub E0ab E0col E0dd E0k0 E0k1 E0k2 E0k3 E0k5 "ValueError.__new__"))
    (E0hb : PySem.HandSPX.refsVE E0bm = true)
    (E0sa : PySem.W.findIn K (.ref E0C) "__setattr__" = some (some (.builtin "object.__setattr__")))
    (E0ex : PySem.W.subIn K (.ref E0C) (.type "BaseException") = some true)
    (E0ty : PySem.W.typeIn K (.ref E0C) = some (.type "type"))
    (E0kc : PySem.W.keepIn K (.ref E0C) = true)
    (E0iC : PySem.W.findIn K (.ref E0C) "__init__" = some (some (.ref E0f)))
    (E0tI : PySem.W.typeIn K (.ref E0f) = some (.type "function"))
    (E0lk : K.lookup E0f = some ⟨E0oc, E0od, .func (PySem.W.ksFn "__init__" "InvalidNumber.__init__" (defArgs (inClass (top 2) 0)) (defBody (inClass (top 2) 0)) (defScope (inClass (top 2) 0)) .none E0kV E0dc E0pm E0an (.ref E0da) E0ct E0cc), E0sl⟩)
    (E0co : PySem.W.codeIn K (.ref E0da) "InvalidNumber.__init__" = true)
    (E0lc : K.lookup E0da = some ⟨E0ccl, E0cdd, .fields E0vs, E0ccs⟩)
    (E0fi : E0vs[2]? = some (.str PySem.Challenge.pw_allworlds_k01_whole_fractions.main.file E0tf))
    (E0ce : K.lookup E0cc = some ⟨E0cl, E0cld, .cell (some (.ref E0C)), E0csl⟩)
    (E0cl : PySem.W.clsIn K E0C = some E0cd)
    (E0mr : PySem.W.mroIn K E0C (.ref E0C) = some true)
    (E0al : PySem.W.alongIn K "__init__" ((E0cd.mro.dropWhile (· != (.ref E0C))).drop 1) = some (some (.builtin "ValueError.__init__")))
    (E0va : PySem.W.subIn K (.ref E0C) (.type "ValueError") = some true)
    (E0nword : PySem.W.findIn K (.ref E0C) "word" = some none)
    (E0ga : PySem.W.findIn K (.ref E0C) "__getattribute__" = some (some (.builtin "BaseException.__getattribute__")))
    (E0gk : PySem.W.findIn K (.ref E0C) "__getattr__" = some none)
    (E0hd : PySem.W.hasDictIn K E0C = true)
    (E0ha : PySem.W.findIn K (.ref E0C) "__class__" = some (some (.builtin "object.__class__")))
    (E0hm : PySem.W.mroIn K E0C (.type "object") = some true)
    (E1x : PySem.W.nsIn K mainGlobals "Refused" = some (some (.ref E1C)))
    (E1lC : K.lookup E1C = some (excClassObj E1nm E1q E1C E1N E1bs E1bm true E1sn E1sub E1ab E1col E1dd E1k0 E1k1 E1k2 E1k3 E1k5 "ValueError.__new__"))
    (E1hb : PySem.HandSPX.refsVE E1bm = true)
    (E1sa : PySem.W.findIn K (.ref E1C) "__setattr__" = some (some (.builtin "object.__setattr__")))
    (E1ex : PySem.W.subIn K (.ref E1C) (.type "BaseException") = some true)
    (E1ty : PySem.W.typeIn K (.ref E1C) = some (.type "type"))
    (E1kc : PySem.W.keepIn K (.ref E1C) = true)
    (E1iC : PySem.W.findIn K (.ref E1C) "__init__" = some (some (.ref E1f)))
    (E1tI : PySem.W.typeIn K (.ref E1f) = some (.type "function"))
    (E1lk : K.lookup E1f = some ⟨E1oc, E1od, .func (PySem.W.ksFn "__init__" "Refused.__init__" (defArgs (inClass (top 3) 0)) (defBody (inClass (top 3) 0)) (defScope (inClass (top 3) 0)) .none E1kV E1dc E1pm E1an (.ref E1da) E1ct E1cc), E1sl⟩)
    (E1co : PySem.W.codeIn K (.ref E1da) "Refused.__init__" = true)
    (E1lc : K.lookup E1da = some ⟨E1ccl, E1cdd, .fields E1vs, E1ccs⟩)
    (E1fi : E1vs[2]? = some (.str PySem.Challenge.pw_allworlds_k01_whole_fractions.main.file E1tf))
    (E1ce : K.lookup E1cc = some ⟨E1cl, E1cld, .cell (some (.ref E1C)), E1csl⟩)
    (E1cl : PySem.W.clsIn K E1C = some E1cd)
    (E1mr : PySem.W.mroIn K E1C (.ref E1C) = some true)
    (E1al : PySem.W.alongIn K "__init__" ((E1cd.mro.dropWhile (· != (.ref E1C))).drop 1) = some (some (.builtin "ValueError.__init__")))
    (E1va : PySem.W.subIn K (.ref E1C) (.type "ValueError") = some true)
    (E1nword : PySem.W.findIn K (.ref E1C) "word" = some none)
    (E1ga : PySem.W.findIn K (.ref E1C) "__getattribute__" = some (some (.builtin "BaseException.__getattribute__")))
    (E1gk : PySem.W.findIn K (.ref E1C) "__getattr__" = some none)
    (E1hd : PySem.W.hasDictIn K E1C = true)
    (E1ha : PySem.W.findIn K (.ref E1C) "__class__" = some (some (.builtin "object.__class__")))
    (E1hm : PySem.W.mroIn K E1C (.type "object") = some true)
    (X0s0 : PySem.W.subIn K (.ref E0C) (.ref E1C) = some false)
    (X0k0 : PySem.W.kitOne K (.ref E0C) (.ref E1C) = some false)
    (X0s1 : PySem.W.subIn K (.ref E1C) (.ref E1C) = some true)
    (X0k1 : PySem.W.kitOne K (.ref E1C) (.ref E1C) = some true)
    (X1x : PySem.W.nsIn K mainGlobals "NetError" = some (some (.ref X1D)))
    (X1ex : PySem.W.subIn K (.ref X1D) (.type "BaseException") = some true)
    (X1hd : PySem.W.hasDictIn K X1D = true)
    (X1ty : PySem.W.typeIn K (.ref X1D) = some (.type "type"))
    (X1s0 : PySem.W.subIn K (.ref E0C) (.ref X1D) = some true)
    (X1k0 : PySem.W.kitOne K (.ref E0C) (.ref X1D) = some true)
    (X1s1 : PySem.W.subIn K (.ref E1C) (.ref X1D) = some true)
    (X1k1 : PySem.W.kitOne K (.ref E1C) (.ref X1D) = some true)
    (X2s0 : PySem.W.subIn K (.ref E0C) (.ref E0C) = some true)
    (X2k0 : PySem.W.kitOne K (.ref E0C) (.ref E0C) = some true)
    (X2s1 : PySem.W.subIn K (.ref E1C) (.ref E0C) = some false)
    (X2k1 : PySem.W.kitOne K (.ref E1C) (.ref E0C) = some false)
    (rc24 : ∃ d : DefRec, (recsOf q).find? (fun e => e.name == ("_law_pair_right" : Str)) = some d) (rc25 : ∃ d : DefRec, (recsOf q).find? (fun e => e.name == ("_law_several_right" : Str)) = some d) (rc26 : ∃ d : DefRec, (recsOf q).find? (fun e => e.name == ("law" : Str)) = some d) (nd : [lp24, lp25, lp26].Nodup) :
    ∃ (fd : FuncData) (tb : List (Str × Addr × Addr)) (sp : Sp), (∀ (s : Shared) (u : Value), BindsTo s fd ⟨[u], []⟩ [("_law_script", u)]) ∧ (∀ p ∈ tb, (∃ d : DefRec, (recsOf q).find? (fun e => e.name == p.1) = some d) ∧ PySem.W.tabIn K p.1 = some p.2 ∧ K.lookup p.2.2 = none) ∧
      (∀ (M : Hp) (a : Addr) (ns : List Int), ns.length ≤ 63 → (∀ p ∈ tb, M p.2.2 = some (.tbl #[])) → SqL K M a (ns.map V.int) → sp [.ref a] M (fun v _ => v = .bl true) fun _ _ _ => False) ∧
      ∀ base : PySem.Heap, K.In base → base.Ns mainGlobals mg → Tops base mg (tb.map (·.2.2)) → FnG PySem.Challenge.pw_allworlds_k01_whole_fractions w K mg base (L2.CX PySem.Challenge.pw_allworlds_k01_whole_fractions w) true 18 fa fd ["_law_script"] sp := by
  letI : TabList := tabOf K ["_law_pair_right", "_law_several_right", "law"] ["InvalidNumber", "Refused"]
  have tb24 := tab_mk a24 l24 rfl lk24 vl24
  have tb25 := tab_mk a25 l25 rfl lk25 vl25
  have tb26 := tab_mk a26 l26 rfl lk26 vl26
  have tT : TabList.T = [(lp24, (("_law_pair_right" : Str) ++ ".<locals>." ++ "<lambda>")), (lp25, (("_law_several_right" : Str) ++ ".<locals>." ++ "<lambda>")), (lp26, (("law" : Str) ++ ".<locals>." ++ "<lambda>"))] := by
    show List.map _ _ = _
    simp only [List.map_cons, List.map_nil, tb24, tb25, tb26, Option.getD_some]
  have mT24 : (lp24, (("_law_pair_right" : Str) ++ ".<locals>." ++ "<lambda>")) ∈ TabList.T := by rw [tT]; simp
  have mT25 : (lp25, (("_law_several_right" : Str) ++ ".<locals>." ++ "<lambda>")) ∈ TabList.T := by rw [tT]; simp
  have mT26 : (lp26, (("law" : Str) ++ ".<locals>." ++ "<lambda>")) ∈ TabList.T := by rw [tT]; simp
  have M := mo_mk X G a0 l0 c0 k0 a1 l1 c1 k1 a2 l2 c2 k2 a3 l3 c3 k3 a4 l4 c4 k4 a5 l5 c5 k5 a6 l6 c6 k6 a7 l7 c7 k7 a8 l8 c8 k8 a9 l9 c9 k9 a10 l10 c10 k10 a11 l11 c11 k11 a12 l12 c12 k12 a13 l13 c13 k13 a14 l14 c14 k14 a15 l15 c15 k15 a16 l16 c16 k16 a17 l17 c17 k17 a18 l18 c18 k18 a19 l19 c19 k19 a20 l20 c20 k20 a21 l21 c21 k21 a22 l22 c22 k22 a23 l23 c23 k23 a24 l24 c24 k24 a25 l25 c25 k25 a26 l26 c26 k26 lk24 vl24 hd24 ot24 lk25 vl25 hd25 ot25 lk26 vl26 hd26 ot26 z0 z1 z2 z3 z4 z5 z6 z7 z8 z9 z10 y0 yl0 y1 yl1 sup opq spc tks E0x E0lC E0hb E0sa E0ex E0ty E0kc E0iC E0tI E0lk E0co E0lc E0fi E0ce E0cl E0mr E0al E0va E0nword E0ga E0gk E0hd E0ha E0hm E1x E1lC E1hb E1sa E1ex E1ty E1kc E1iC E1tI E1lk E1co E1lc E1fi E1ce E1cl E1mr E1al E1va E1nword E1ga E1gk E1hd E1ha E1hm X0s0 X0k0 X0s1 X0k1 X1x X1ex X1hd X1ty X1s0 X1k0 X1s1 X1k1 X2s0 X2k0 X2s1 X2k1 (clsAt_of E0x) (clsAt_of E1x) mT24 mT25 mT26 (by rw [tT]; exact nd)
  have ok := ok26 M
  rw [tT] at ok
  exact law_mk (q := q) hmg [("_law_pair_right", lc24, lp24), ("_law_several_right", lc25, lp25), ("law", lc26, lp26)] (List.forall_mem_cons.mpr ⟨⟨rc24, tb24, ot24⟩, List.forall_mem_cons.mpr ⟨⟨rc25, tb25, ot25⟩, List.forall_mem_cons.mpr ⟨⟨rc26, tb26, ot26⟩, (fun p hp => nomatch hp)⟩⟩⟩) (fun Mh hM => by rw [tT]; exact tabs_nil (List.forall_mem_cons.mpr ⟨hM ("_law_pair_right", lc24, lp24) (by simp), List.forall_mem_cons.mpr ⟨hM ("_law_several_right", lc25, lp25) (by simp), List.forall_mem_cons.mpr ⟨hM ("law", lc26, lp26) (by simp), (fun p hp => nomatch hp)⟩⟩⟩)) answers ok
end K01
end

section
set_option Elab.async false
set_option linter.all false
set_option maxRecDepth 100000
namespace Ev
open PySem
/-! ### running the evaluator by hand -/
section
variable {Γ : Gm}
abbrev vE (Γ : Gm) := evE reprL Γ
theorem run_cons {s : S} {ss : List S} {env env' : Env} {h h' : Heap} {r : R Flow} (e : evS reprL Γ s env h = some (.ok (.nx env') h')) (k : evSs reprL Γ ss env' h' = r) : evSs reprL Γ (s :: ss) env h = r := by
  show R.bind (evS reprL Γ s env h) _ = r
  rw [e]
  exact k
theorem run_ret {s : S} {ss : List S} {env : Env} {h h' : Heap} {d : D} (e : evS reprL Γ s env h = some (.ok (.ret d) h')) : evSs reprL Γ (s :: ss) env h = some (.ok (.ret d) h') := by
  show R.bind (evS reprL Γ s env h) _ = _
  rw [e]
  rfl
theorem run_nil {env : Env} {h : Heap} : evSs reprL Γ [] env h = some (.ok (.nx env) h) := rfl
theorem run_for {t : Tg} {it : E} {body : List S} {env : Env} {h h' : Heap} {s : D} {xs : List D} {r : R Flow} (e : evE reprL Γ it env h = some (.ok s h')) (w : walk? s = some xs) (k : forLoop (forTurn Γ t body) xs env h' = r) : evS reprL Γ (.for t it body) env h = r := by
  show R.bindS (evE reprL Γ it env h) env _ = r
  rw [e]
  show (match walk? s with | some xs => _ | none => _) = r
  rw [w]
  exact k
theorem run_ifT {t : E} {a b : List S} {env : Env} {h h' : Heap} {r : R Flow} (e : evE reprL Γ t env h = some (.ok (.bl true) h')) (k : evSs reprL Γ a env h' = r) : evS reprL Γ (.ifs t a b) env h = r := by
  show R.bindS (evE reprL Γ t env h) env _ = r
  rw [e]
  exact k
theorem run_ifF {t : E} {a b : List S} {env : Env} {h h' : Heap} {r : R Flow} (e : evE reprL Γ t env h = some (.ok (.bl false) h')) (k : evSs reprL Γ b env h' = r) : evS reprL Γ (.ifs t a b) env h = r := by
  show R.bindS (evE reprL Γ t env h) env _ = r
  rw [e]
  exact k
theorem loop_nil {f : D → Env → Heap → R Flow} {env : Env} {h : Heap} : forLoop f [] env h = some (.ok (.nx env) h) := rfl
theorem loop_cons {f : D → Env → Heap → R Flow} {x : D} {xs : List D} {env env' : Env} {h h' : Heap} {r : R Flow} (e : f x env h = some (.ok (.nx env') h')) (k : forLoop f xs env' h' = r) : forLoop f (x :: xs) env h = r := by
  show R.bind (f x env h) _ = r
  rw [e]
  exact k
theorem loop_ret {f : D → Env → Heap → R Flow} {x d : D} {xs : List D} {env : Env} {h h' : Heap} (e : f x env h = some (.ok (.ret d) h')) : forLoop f (x :: xs) env h = some (.ok (.ret d) h') := by
  show R.bind (f x env h) _ = _
  rw [e]
  rfl
theorem run_while {c : E} {body : List S} {env : Env} {h : Heap} : evS reprL Γ (.whil c body) env h = loopW (whileTurn Γ c body) env h := rfl
theorem loopW_eq (f : Env → Heap → R (Sum Env Flow)) (env : Env) (h : Heap) : loopW f env h = match f env h with
  | none => none
  | some (.err c ns fs h) => some (.err c ns fs h)
  | some (.ok (.inr fl) h) => some (.ok fl h)
  | some (.ok (.inl env) h) => loopW f env h := by
  refine (loopW.eq_def f env h).trans ?_
  cases f env h with
  | none => rfl
  | some o => cases o with
    | err _ _ _ _ => rfl
    | ok s h => cases s <;> rfl
theorem while_F {c : E} {body : List S} {env : Env} {h h' : Heap} (e : evE reprL Γ c env h = some (.ok (.bl false) h')) : loopW (whileTurn Γ c body) env h = some (.ok (.nx env) h') := by
  rw [loopW_eq]
  unfold whileTurn
  rw [e]
theorem while_T {c : E} {body : List S} {env env' : Env} {h h' h'' : Heap} {r : R Flow} (e : evE reprL Γ c env h = some (.ok (.bl true) h')) (b : evSs reprL Γ body env h' = some (.ok (.nx env') h'')) (k : loopW (whileTurn Γ c body) env' h'' = r) : loopW (whileTurn Γ c body) env h = r := by
  rw [loopW_eq]
  have : whileTurn Γ c body env h = some (.ok (.inl env') h'') := by
    unfold whileTurn
    rw [e]
    show R.bind (evSs reprL Γ body env h') _ = _
    rw [b]
    rfl
  rw [this]
  exact k
theorem fn_ret {f : Fn} {ds : List D} {h h' : Heap} {d : D} (hl : ds.length = f.modes.length) (e : evSs reprL Γ f.body (startEnv f ds) h = some (.ok (.ret d) h')) : evFn reprL Γ f ds h = some (.ok d h') := by
  unfold evFn
  rw [if_pos hl, e]
  rfl
theorem comp_nil {α : Type} {f : D → Heap → R (List α)} {h : Heap} : compLoop f [] h = some (.ok [] h) := rfl
theorem comp_cons {α : Type} {f : D → Heap → R (List α)} {x : D} {xs : List D} {h h' h'' : Heap} {o ys : List α} (e : f x h = some (.ok o h')) (k : compLoop f xs h' = some (.ok ys h'')) : compLoop f (x :: xs) h = some (.ok (o ++ ys) h'') := by
  show R.bind (f x h) _ = _
  rw [e]
  show R.bind (compLoop f xs h') _ = _
  rw [k]
  rfl
/-- each turn gives its own items, the heap as it was -/
theorem comp_pure {α : Type} {f : D → Heap → R (List α)} {h : Heap} {g : D → List α} : ∀ {xs : List D}, (∀ x ∈ xs, f x h = some (.ok (g x) h)) → compLoop f xs h = some (.ok (xs.flatMap g) h)
  | [], _ => rfl
  | x :: xs, H => comp_cons (H x List.mem_cons_self) (comp_pure fun y hy => H y (List.mem_cons_of_mem _ hy))
theorem run_lc {elt it : E} {tg : Tg} {cnd : List E} {env : Env} {h h' h'' : Heap} {s : D} {xs ys : List D} (e : evE reprL Γ it env h = some (.ok s h')) (w : walk? s = some xs) (k : compLoop (lcTurn Γ elt cnd tg.slots tg env) xs h' = some (.ok ys h'')) : evE reprL Γ (.lc elt tg it cnd) env h = some (.ok (.lst ys) h'') := by
  show R.bind (evE reprL Γ it env h) _ = _
  rw [e]
  show (match walk? s with | some xs => _ | none => _) = _
  rw [w]
  show R.bind (calmly (compLoop (lcTurn Γ elt cnd tg.slots tg env) xs h')) _ = _
  rw [k]
  rfl
theorem run_lc2 {elt it it2 : E} {tg tg2 : Tg} {cnd cnd2 : List E} {env : Env} {h h' h'' : Heap} {s : D} {xs ys : List D} (e : evE reprL Γ it env h = some (.ok s h')) (w : walk? s = some xs) (k : compLoop (lc2Turn Γ elt cnd (tg.slots ++ tg2.slots) tg tg2 it2 cnd2 env) xs h' = some (.ok ys h'')) (hl : ys.length ≤ LIM) :
    evE reprL Γ (.lc2 elt tg it cnd tg2 it2 cnd2) env h = some (.ok (.lst ys) h'') := by
  show R.bind (evE reprL Γ it env h) _ = _
  rw [e]
  show (match walk? s with | some xs => _ | none => _) = _
  rw [w]
  show R.bind (calmly (compLoop (lc2Turn Γ elt cnd (tg.slots ++ tg2.slots) tg tg2 it2 cnd2 env) xs h')) _ = _
  rw [k]
  show (if ys.length ≤ LIM then _ else _) = _
  rw [if_pos hl]
end
theorem log_small {a : Int} (h : a.natAbs < 2 ^ 64) : a.natAbs.log2 < 64 := by
  by_cases z : a.natAbs = 0
  · rw [z]
    decide
  · exact (Nat.log2_lt z).mpr h
theorem mulOk_left {a b : Int} (ha : a.natAbs < 2 ^ 64) : mulOk a b = true := by
  unfold mulOk
  rw [decide_eq_true ha]
  rfl
theorem mulOk_right {a b : Int} (hb : b.natAbs < 2 ^ 64) : mulOk a b = true := by
  unfold mulOk
  rw [decide_eq_true hb, Bool.or_true]
  rfl
theorem mulOk_small {a b : Int} (ha : a.natAbs < 2 ^ 64) (hb : b.natAbs < 2 ^ 64) : mulOk a b = true := mulOk_left ha
section
variable {Γ : Gm} {env : Env} {h h1 h2 h3 : Heap} {a b c : E} {x y z x' y' d : D}
theorem x1 {o : Op1} (ea : evE reprL Γ a env h = some (.ok x h1)) (dx : deref h1 x = some x') (ho : o1 reprL o x' = some d) : evE reprL Γ (.op1 o a) env h = some (.ok d h1) := by
  show R.bind (evE reprL Γ a env h) _ = _
  rw [ea]
  show lift h1 ((deref h1 x).bind (o1 reprL o)) = _
  rw [dx]
  show lift h1 (o1 reprL o x') = _
  rw [ho]
  rfl
theorem calmIf_ok {α : Type} {o : Op2} {a : α} {h : Heap} : calmIf o (some (.ok a h)) = some (.ok a h) := by cases o <;> rfl
theorem x2 {o : Op2} (ea : evE reprL Γ a env h = some (.ok x h1)) (eb : evE reprL Γ b env h1 = some (.ok y h2)) (dx : deref h2 x = some x') (dy : deref h2 y = some y') (ho : o2 o x' y' = some d) : evE reprL Γ (.op2 o a b) env h = some (.ok d h2) := by
  show R.bind (evE reprL Γ a env h) _ = _
  rw [ea]
  show R.bind (calmIf o (evE reprL Γ b env h1)) _ = _
  rw [eb, calmIf_ok]
  show lift h2 ((deref h2 x).bind fun x => (deref h2 y).bind fun y => o2 o x y) = _
  rw [dx, dy]
  show lift h2 (o2 o x' y') = _
  rw [ho]
  rfl
theorem x3 {o : Op3} (ea : evE reprL Γ a env h = some (.ok x h1)) (eb : evE reprL Γ b env h1 = some (.ok y h2)) (ec : evE reprL Γ c env h2 = some (.ok z h3)) (dx : deref h3 x = some x') (ho : o3 o x' y z = some d) : evE reprL Γ (.op3 o a b c) env h = some (.ok d h3) := by
  show R.bind (evE reprL Γ a env h) _ = _
  rw [ea]
  show R.bind (evE reprL Γ b env h1) _ = _
  rw [eb]
  show R.bind (calmly (evE reprL Γ c env h2)) _ = _
  rw [ec]
  show lift h3 ((deref h3 x).bind fun x => o3 o x y z) = _
  rw [dx]
  show lift h3 (o3 o x' y z) = _
  rw [ho]
  rfl
theorem xcall {n : Nat} {es : List E} {ds : List D} (e : evEs reprL Γ es env h = some (.ok ds h1)) (k : Γ.fn n ds h1 = some (.ok d h2)) : evE reprL Γ (.call n es) env h = some (.ok d h2) := by
  show R.bind (evEs reprL Γ es env h) _ = _
  rw [e]
  exact k
theorem xcallK {n : Nat} {perm : List Nat} {es : List E} {ds ds' : List D} (e : evEs reprL Γ es env h = some (.ok ds h1)) (p : perm.mapM (ds[·]?) = some ds') (k : Γ.fn n ds' h1 = some (.ok d h2)) : evE reprL Γ (.callK n perm es) env h = some (.ok d h2) := by
  show R.bind (evEs reprL Γ es env h) _ = _
  rw [e]
  show (match perm.mapM (ds[·]?) with | some ds => Γ.fn n ds h1 | none => none) = _
  rw [p]
  exact k
theorem xs_nil : evEs reprL Γ [] env h = some (.ok [] h) := rfl
theorem xs_cons {es : List E} {ds : List D} (e : evE reprL Γ a env h = some (.ok x h1)) (k : evEs reprL Γ es env h1 = some (.ok ds h2)) : evEs reprL Γ (a :: es) env h = some (.ok (x :: ds) h2) := by
  show R.bind (evE reprL Γ a env h) _ = _
  rw [e]
  show R.bind (evEs reprL Γ es env h1) _ = _
  rw [k]
  rfl
theorem xtup {es : List E} {ds : List D} (k : evEs reprL Γ es env h = some (.ok ds h1)) : evE reprL Γ (.tup es) env h = some (.ok (.tup ds) h1) := by
  show R.bind (evEs reprL Γ es env h) _ = _
  rw [k]
  rfl
theorem xlst {es : List E} {ds : List D} (k : evEs reprL Γ es env h = some (.ok ds h1)) : evE reprL Γ (.lst es) env h = some (.ok (.lst ds) h1) := by
  show R.bind (evEs reprL Γ es env h) _ = _
  rw [k]
  rfl
theorem xorF {r : R D} (ea : evE reprL Γ a env h = some (.ok (.bl false) h1)) (k : evE reprL Γ b env h1 = r) : evE reprL Γ (.or a b) env h = r := by
  show R.bind (evE reprL Γ a env h) _ = _
  rw [ea]
  exact k
theorem xandT {r : R D} (ea : evE reprL Γ a env h = some (.ok (.bl true) h1)) (k : evE reprL Γ b env h1 = r) : evE reprL Γ (.and a b) env h = r := by
  show R.bind (evE reprL Γ a env h) _ = _
  rw [ea]
  exact k
theorem run_asg {tg : Tg} {env' : Env} (e : evE reprL Γ a env h = some (.ok d h1)) (s : setTg tg d env = some env') : evS reprL Γ (.asg tg a) env h = some (.ok (.nx env') h1) := by
  show R.bindS (evE reprL Γ a env h) env _ = _
  rw [e]
  show (match setTg tg d env with | some env => _ | none => none) = _
  rw [s]
theorem run_par {ts : List (Bool × Nat)} {es : List E} {ds : List D} {env' : Env} (e : evEs reprL Γ es env h = some (.ok ds h1)) (s : setPar ts ds env = some env') : evS reprL Γ (.par ts es) env h = some (.ok (.nx env') h1) := by
  show R.bindS (evEs reprL Γ es env h) env _ = _
  rw [e]
  show (match setPar ts ds env with | some env => _ | none => none) = _
  rw [s]
theorem run_retE (e : evE reprL Γ a env h = some (.ok d h1)) : evS reprL Γ (.ret a) env h = some (.ok (.ret d) h1) := by
  show R.bindS (evE reprL Γ a env h) env _ = _
  rw [e]
  rfl
end
theorem xcallErr {Γ : Gm} {env : Env} {h h1 h2 : Heap} {n c : Nat} {es : List E} {ds fs : List D} {ns : List Str} (e : evEs reprL Γ es env h = some (.ok ds h1)) (k : Γ.fn n ds h1 = some (.err c ns fs h2)) : evE reprL Γ (.call n es) env h = some (.err c ns fs h2) := by
  show R.bind (evEs reprL Γ es env h) _ = _
  rw [e]
  exact k
theorem fn_exc {Γ : Gm} {f : Fn} {ds fs : List D} {h h' : Heap} {env : Env} {c : Nat} {ns : List Str} (hl : ds.length = f.modes.length) (e : evSs reprL Γ f.body (startEnv f ds) h = some (.ok (.exc env c ns fs) h')) : evFn reprL Γ f ds h = some (.err c ns fs h') := by
  unfold evFn
  rw [if_pos hl, e]
  rfl
end Ev
namespace Ev
open PySem
theorem plains_ints : ∀ cs : List Int, D.plains (cs.map D.int) = true
  | [] => rfl
  | _ :: cs => plains_ints cs
theorem depths_ints : ∀ cs : List Int, D.depths (cs.map D.int) = 0
  | [] => rfl
  | c :: cs => by
    show max (D.depth (.int c)) (D.depths (cs.map D.int)) = 0
    rw [depths_ints cs]
    rfl
theorem atI_last {xs : List D} {x : D} : Ev.atI (xs ++ [x]) (-1) = some x := by
  unfold Ev.atI Ev.ixN
  have hl : (xs ++ [x]).length = xs.length + 1 := by simp
  rw [hl, if_neg (by omega), if_pos (by omega)]
  have : ((-1 : Int) + ((xs.length + 1 : Nat) : Int)).toNat = xs.length := by omega
  show (xs ++ [x])[((-1 : Int) + ((xs.length + 1 : Nat) : Int)).toNat]? = some x
  rw [this, List.getElem?_append_right (Nat.le_refl _), Nat.sub_self]
  rfl
theorem ne_nil (cs : List Int) : o2 .ne (.lst (cs.map D.int)) (.lst []) = some (.bl (!cs.isEmpty)) := by
  have h : cmpOk (.lst (cs.map D.int)) (.lst []) = true := by
    unfold cmpOk
    show (D.plains (cs.map D.int) && true && decide (min (D.depths (cs.map D.int) + 1) (0 + 1) ≤ 64)) = true
    rw [plains_ints, depths_ints]
    rfl
  show (if cmpOk (.lst (cs.map D.int)) (.lst []) = true then some (D.bl (!D.eqv (.lst (cs.map D.int)) (.lst []))) else none) = _
  rw [if_pos h]
  cases cs <;> rfl
theorem split_last {α : Type} : ∀ {xs : List α}, xs ≠ [] → ∃ ys y, xs = ys ++ [y]
  | xs, h => ⟨xs.dropLast, xs.getLast h, (List.dropLast_concat_getLast h).symm⟩
end Ev
namespace Ev
open PySem
section
variable {Γ : Gm} {env env1 env2 : Env} {h h1 h2 : Heap} {elt c : E} {tg : Tg} {vs : List Nat} {x y : D}
theorem turn_elt (k : clear env vs = some env1) (s : setTg tg x env1 = some env2) (e : evE reprL Γ elt env2 h = some (.ok y h1)) : lcTurn Γ elt [] vs tg env x h = some (.ok [y] h1) := by
  unfold lcTurn
  rw [k]
  show (match setTg tg x env1 with | none => none | some env => _) = _
  rw [s]
  show R.bind (evE reprL Γ elt env2 h) _ = _
  rw [e]
  rfl
theorem turn_T (k : clear env vs = some env1) (s : setTg tg x env1 = some env2) (t : evE reprL Γ c env2 h = some (.ok (.bl true) h1)) (e : evE reprL Γ elt env2 h1 = some (.ok y h2)) : lcTurn Γ elt [c] vs tg env x h = some (.ok [y] h2) := by
  unfold lcTurn
  rw [k]
  show (match setTg tg x env1 with | none => none | some env => _) = _
  rw [s]
  show R.bind (R.bind (evE reprL Γ c env2 h) _) _ = _
  rw [t]
  show R.bind (evE reprL Γ elt env2 h1) _ = _
  rw [e]
  rfl
theorem turn_F (k : clear env vs = some env1) (s : setTg tg x env1 = some env2) (t : evE reprL Γ c env2 h = some (.ok (.bl false) h1)) : lcTurn Γ elt [c] vs tg env x h = some (.ok [] h1) := by
  unfold lcTurn
  rw [k]
  show (match setTg tg x env1 with | none => none | some env => _) = _
  rw [s]
  show R.bind (R.bind (evE reprL Γ c env2 h) _) _ = _
  rw [t]
  rfl
/-- a comprehension over ints that leaves the heap -/
theorem comp_ints {f : D → Heap → R (List D)} {h : Heap} {g : Int → List Int} : ∀ {cs : List Int}, (∀ c ∈ cs, f (.int c) h = some (.ok ((g c).map D.int) h)) → compLoop f (cs.map D.int) h = some (.ok ((cs.flatMap g).map D.int) h)
  | [], _ => rfl
  | c :: cs, H => by
    have := comp_cons (H c List.mem_cons_self) (comp_ints fun y hy => H y (List.mem_cons_of_mem _ hy))
    rw [List.flatMap_cons, List.map_append]
    exact this
end
end Ev
namespace Ev
theorem mul_of {a b : Int} (m : mulOk a b = true) : o2 .mul (.int a) (.int b) = some (.int (a * b)) := if_pos m
theorem flat1_len {α β : Type} {g : α → β} : ∀ cs : List α, (cs.flatMap fun c => [g c]).length = cs.length
  | [] => rfl
  | c :: cs => by
    rw [List.flatMap_cons, List.length_append, flat1_len cs, List.length_cons, List.length_cons, List.length_nil]
    omega
end Ev
end

section
set_option Elab.async false
set_option linter.all false
set_option maxRecDepth 100000
namespace Ev
open PySem
section
variable {Γ : Gm} {env env1 env2 : Env} {h h1 h2 : Heap} {elt it2 : E} {cnd2 : List E} {tg tg2 : Tg} {vs : List Nat} {x s : D} {xs ys : List D}
theorem turn_in (k : clear env vs = some env1) (st : setTg tg x env1 = some env2) (e : evE reprL Γ it2 env2 h = some (.ok s h1)) (w : walk? s = some xs) (c : compLoop (lcTurn Γ elt cnd2 tg2.slots tg2 env2) xs h1 = some (.ok ys h2)) : lc2Turn Γ elt [] vs tg tg2 it2 cnd2 env x h = some (.ok ys h2) := by
  unfold lc2Turn
  rw [k]
  show (match setTg tg x env1 with | none => none | some env => _) = _
  rw [st]
  show R.bind (evE reprL Γ it2 env2 h) _ = _
  rw [e]
  show (match walk? s with | some xs => _ | none => none) = _
  rw [w]
  exact c
theorem comp_map {α : Type} {f : D → Heap → R (List D)} {g : α → D} {k : α → List D} : ∀ {as : List α}, (∀ a ∈ as, f (g a) h = some (.ok (k a) h)) → compLoop f (as.map g) h = some (.ok (as.flatMap k) h)
  | [], _ => rfl
  | a :: as, H => comp_cons (H a List.mem_cons_self) (comp_map fun y hy => H y (List.mem_cons_of_mem _ hy))
end
theorem range_mul {α : Type} (g : Nat → α) (c : Nat) : ∀ a : Nat, (List.range (a * c)).map g = (List.range a).flatMap fun q => (List.range c).map fun r => g (q * c + r)
  | 0 => by simp
  | a + 1 => by
    rw [Nat.succ_mul, List.range_add, List.map_append, range_mul g c a, List.range_succ, List.flatMap_append, List.map_map]
    congr 1
    rw [List.flatMap_cons, List.flatMap_nil, List.append_nil]
    rfl
theorem rangeD_nat (n : Nat) : rangeD 0 1 n = (List.range n).map fun k : Nat => D.int k := by
  unfold rangeD
  apply List.map_congr_left
  intro k _
  congr 1
  omega
end Ev
end

section
set_option Elab.async false
set_option linter.all false
set_option maxRecDepth 100000
namespace Dr
open PySem L2 Ev
/-! ### the draw -/
/-- the box: its cells, its stir -/
def box (cs : List Int) (s : Int) : Ev.Heap := [.lst (cs.map D.int), .lst [.ref 0, .int s]]
def Box (h : Ev.Heap) : Prop := ∃ cs s, h = box cs s ∧ 0 ≤ s ∧ s < 2147483647 ∧ cs.length ≤ 60
theorem mulS {a b : Int} (ha : -(2 ^ 63) < a ∧ a < 2 ^ 63) (hb : -(2 ^ 63) < b ∧ b < 2 ^ 63) : mulOk a b = true := mulOk_small (by omega) (by omega)
section
variable {Γ : Gm} {cs : List Int} {s many : Int} {x : Sl}
abbrev env6 (many : Int) (x : Sl) : Ev.Env := [.val (.ref 1), .val (.int many), x]
abbrev c0 : E := .op2 .ix (.view 0) (.cst (.int 0))
theorem c0_ok : evE reprL Γ c0 (env6 many x) (box cs s) = some (.ok (.ref 0) (box cs s)) := rfl
theorem t1_ok : evE reprL Γ (.op2 .ne c0 (.lst [])) (env6 many x) (box cs s) = some (.ok (.bl (!cs.isEmpty)) (box cs s)) := by
  show lift (box cs s) (o2 .ne (.lst (cs.map D.int)) (.lst [])) = _
  rw [ne_nil]
  rfl
theorem t2_ok {ys : List Int} {y : Int} : evE reprL Γ (.op2 .eq (.op2 .ix c0 (.op1 .neg (.cst (.int 1)))) (.cst (.int 0))) (env6 many x) (box (ys ++ [y]) s) = some (.ok (.bl (y == 0)) (box (ys ++ [y]) s)) := by
  show R.bind (lift (box (ys ++ [y]) s) (Ev.atI ((ys ++ [y]).map D.int) (-1))) _ = _
  rw [List.map_append, show [y].map D.int = [D.int y] from rfl, Ev.atI_last]
  rfl
theorem pop_ok {ys : List Int} {y : Int} : evE reprL Γ (.pop c0) (env6 many x) (box (ys ++ [y]) s) = some (.ok (.int y) (box ys s)) := by
  show (match ((ys ++ [y]).map D.int).getLast? with | some z => some (Out.ok z ((box (ys ++ [y]) s).set 0 (.lst ((ys ++ [y]).map D.int).dropLast))) | none => none) = _
  rw [List.map_append, show [y].map D.int = [D.int y] from rfl, List.getLast?_append, List.dropLast_concat]
  rfl
theorem while_ok : ∀ (n : Nat) (cs : List Int), cs.length = n → ∃ cs', loopW (whileTurn Γ (.and (.op2 .ne c0 (.lst [])) (.op2 .eq (.op2 .ix c0 (.op1 .neg (.cst (.int 1)))) (.cst (.int 0)))) [.ex (.pop c0)]) (env6 many x) (box cs s) = some (.ok (.nx (env6 many x)) (box cs' s)) ∧ cs'.length ≤ cs.length
  | n, cs, hn => by
    by_cases e : cs = []
    · subst e
      refine ⟨[], while_F ?_, Nat.le_refl _⟩
      show R.bind (evE reprL Γ (.op2 .ne c0 (.lst [])) (env6 many x) (box [] s)) _ = _
      rw [t1_ok]
      rfl
    · obtain ⟨ys, y, rfl⟩ := split_last e
      have t : evE reprL Γ (.and (.op2 .ne c0 (.lst [])) (.op2 .eq (.op2 .ix c0 (.op1 .neg (.cst (.int 1)))) (.cst (.int 0)))) (env6 many x) (box (ys ++ [y]) s) = some (.ok (.bl (y == 0)) (box (ys ++ [y]) s)) := by
        show R.bind (evE reprL Γ (.op2 .ne c0 (.lst [])) (env6 many x) (box (ys ++ [y]) s)) _ = _
        rw [t1_ok]
        have : (ys ++ [y]).isEmpty = false := by simp
        rw [this]
        exact t2_ok
      by_cases z : y = 0
      · subst z
        have hl : ys.length < n := by
          rw [← hn]
          simp
        obtain ⟨cs', k1, k2⟩ := while_ok ys.length ys rfl
        refine ⟨cs', while_T t (run_cons (show R.bindS (evE reprL Γ (.pop c0) (env6 many x) (box (ys ++ [0]) s)) _ _ = _ by rw [pop_ok]; rfl) rfl) k1, by simp; omega⟩
      · refine ⟨ys ++ [y], while_F ?_, Nat.le_refl _⟩
        rw [t, show (y == 0) = false by simpa using z]
  termination_by n => n
theorem fdiv_ok {a : Int} (h1 : 0 < many) (h2 : many < 2 ^ 62) : o2 .fdiv (.int a) (.int many) = some (.int (a / many)) := by
  show (if (decide (many ≠ 0) && decide (many.natAbs.log2 < 9000)) = true then some (D.int (if 0 < many then a / many else a.fdiv many)) else none) = _
  have : many.natAbs.log2 < 64 := log_small (by omega)
  rw [if_pos, if_pos h1]
  simp only [andI, decI]
  omega
theorem mod_ok {a b : Int} (h1 : 0 < b) : o2 .mod (.int a) (.int b) = some (.int (a % b)) := by
  show (if decide (0 < b) = true then some (D.int (a % b)) else none) = _
  rw [if_pos (decide_eq_true h1)]
theorem mul_ok {a b : Int} (ha : -(2 ^ 63) < a ∧ a < 2 ^ 63) (hb : -(2 ^ 63) < b ∧ b < 2 ^ 63) : o2 .mul (.int a) (.int b) = some (.int (a * b)) := by
  show (if mulOk a b = true then some (D.int (a * b)) else none) = _
  rw [if_pos (mulS ha hb)]
def bDraw (m a : Int) : List S := [
  .whil (.and (.op2 .ne (.op2 .ix (.view 0) (.cst (.int 0))) (.lst [])) (.op2 .eq (.op2 .ix (.op2 .ix (.view 0) (.cst (.int 0))) (.op1 .neg (.cst (.int 1)))) (.cst (.int 0)))) [.ex (.pop (.op2 .ix (.view 0) (.cst (.int 0))))],
  .ifs (.op2 .ne (.op2 .ix (.view 0) (.cst (.int 0))) (.lst [])) [.asg (.name 2) (.pop (.op2 .ix (.view 0) (.cst (.int 0)))), .boxApp (.op2 .ix (.view 0) (.cst (.int 0))) (.op2 .fdiv (.view 2) (.view 1)), .ret (.op2 .mod (.op1 .int (.view 2)) (.view 1))] [],
  .boxSet (.var 0) (.cst (.int 1)) (.op2 .mod (.op1 .int (.op2 .add (.op2 .mul (.op2 .ix (.view 0) (.cst (.int 1))) (.cst (.int m))) (.cst (.int a)))) (.cst (.int 2147483647))),
  .ret (.op2 .mod (.op1 .int (.op2 .fdiv (.op2 .ix (.view 0) (.cst (.int 1))) (.cst (.int 32)))) (.view 1))]
def fDraw (m a : Int) : Fn := ⟨3, [false, false], bDraw m a⟩
theorem draw_run (m a : Int) (hm : 0 ≤ m ∧ m < 2 ^ 62) (cs : List Int) (s many : Int) (h1 : 0 < many) (h2 : many < 2 ^ 62) (hs : 0 ≤ s ∧ s < 2147483647) (hc : cs.length ≤ 60) : ∃ r h', evFn reprL Γ (fDraw m a) [.ref 1, .int many] (box cs s) = some (.ok (.int r) h') ∧ Box h' ∧ 0 ≤ r ∧ r < many := by
  obtain ⟨cs', w, hl⟩ := while_ok (Γ := Γ) (many := many) (x := .none) (s := s) cs.length cs rfl
  by_cases e : cs' = []
  · subst e
    have hs' : 0 ≤ (s * m + a) % 2147483647 ∧ (s * m + a) % 2147483647 < 2147483647 := ⟨Int.emod_nonneg _ (by decide), Int.emod_lt_of_pos _ (by decide)⟩
    refine ⟨(s * m + a) % 2147483647 / 32 % many, box [] ((s * m + a) % 2147483647), fn_ret rfl ?_, ⟨_, _, rfl, hs'.1, hs'.2, by simp⟩, Int.emod_nonneg _ (by omega), Int.emod_lt_of_pos _ h1⟩
    refine run_cons w (run_cons (h' := box [] s) (run_ifF (h' := box [] s) ?_ run_nil) (run_cons (h' := box [] ((s * m + a) % 2147483647)) (env' := env6 many .none) ?_ (run_ret ?_)))
    · rw [t1_ok]
      rfl
    · have m1 := mul_ok (a := s) (b := m) (by omega) (by omega)
      have m2 := mod_ok (a := s * m + a) (b := 2147483647) (by decide)
      show R.bindS (R.bind (R.bind (R.bind (lift (box [] s) (o2 .mul (.int s) (.int m))) _) _) _) _ _ = _
      rw [m1]
      show R.bindS (lift (box [] s) (o2 .mod (.int (s * m + a)) (.int 2147483647))) _ _ = _
      rw [m2]
      rfl
    · have m2 := mod_ok (a := (s * m + a) % 2147483647 / 32) h1
      show R.bindS (lift _ (o2 .mod (.int ((s * m + a) % 2147483647 / 32)) (.int many))) _ _ = _
      rw [m2]
      rfl
  · obtain ⟨ys, y, rfl⟩ := split_last e
    refine ⟨y % many, box (ys ++ [y / many]) s, fn_ret rfl ?_, ⟨_, _, rfl, hs.1, hs.2, by simp at hl ⊢; omega⟩, Int.emod_nonneg _ (by omega), Int.emod_lt_of_pos _ h1⟩
    refine run_cons w (run_ret (run_ifT (h' := box (ys ++ [y]) s) ?_ (run_cons (env' := env6 many (.val (.int y))) (h' := box ys s) ?_ (run_cons (env' := env6 many (.val (.int y))) (h' := box (ys ++ [y / many]) s) ?_ (run_ret ?_)))))
    · rw [t1_ok]
      simp
    · show R.bindS (evE reprL _ (.pop c0) (env6 many .none) (box (ys ++ [y]) s)) _ _ = _
      rw [pop_ok]
      rfl
    · have m := fdiv_ok (a := y) h1 h2
      show R.bindS (lift (box ys s) (o2 .fdiv (.int y) (.int many))) _ _ = _
      rw [m]
      have hlen : (ys.map D.int).length < LIM := by
        rw [List.length_map]
        simp at hl
        show ys.length < 16777216
        omega
      show (if (ys.map D.int).length < LIM then some (Out.ok (Flow.nx _) ((box ys s).set 0 (.lst (ys.map D.int ++ [D.int (y / many)])))) else none) = _
      rw [if_pos hlen, show ys.map D.int ++ [D.int (y / many)] = (ys ++ [y / many]).map D.int by simp]
      rfl
    · have m2 := mod_ok (a := y) h1
      show R.bindS (lift _ (o2 .mod (.int y) (.int many))) _ _ = _
      rw [m2]
      rfl
end
theorem cut_map {α β : Type} (f : α → β) (xs : List α) (lo hi : Option Int) : cut (xs.map f) lo hi = (cut xs lo hi).map f := by
  unfold cut
  rw [List.length_map, ← List.map_drop, ← List.map_take]
theorem cut60 {α : Type} (xs : List α) : (cut xs none (some 60)).length ≤ 60 := by
  unfold cut
  rw [List.length_take]
  have : Ev.sIx xs.length xs.length (some 60) ≤ 60 := by
    unfold Ev.sIx
    show (if (60 : Int) < 0 then ((60 : Int) + (xs.length : Int)).toNat else min 60 xs.length) ≤ 60
    rw [if_neg (by decide)]
    exact Nat.min_le_left _ _
  omega
/-! ### the box is made -/
section
variable {Γ : Gm}
theorem stir_ok (m a : Int) (hm : 0 ≤ m ∧ m < 2 ^ 62) {e0 : Sl} {cells : D} {h : Ev.Heap} : ∀ (cs : List Int) (s : Int) (x : Sl), (0 ≤ s ∧ s < 2147483647) → Ev.isOwnSl (some x) = false → ∃ s' x', forLoop (forTurn Γ (.name 1) [.asg (.name 3) (.op2 .mod (.op1 .int (.op2 .add (.op2 .add (.op2 .mul (.view 3) (.cst (.int m))) (.op2 .mod (.op1 .int (.view 1)) (.cst (.int 2147483563)))) (.cst (.int a)))) (.cst (.int 2147483647)))])
      (cs.map D.int) [e0, x, .val cells, .val (.int s)] h = some (.ok (.nx [e0, x', .val cells, .val (.int s')]) h) ∧ 0 ≤ s' ∧ s' < 2147483647 ∧ Ev.isOwnSl (some x') = false
  | [], s, x, hs, hx => ⟨s, x, rfl, hs.1, hs.2, hx⟩
  | c :: cs, s, x, hs, hx => by
    obtain ⟨s', x', k, k1⟩ := stir_ok m a hm cs ((s * m + c % 2147483563 + a) % 2147483647) (.val (.int c)) ⟨Int.emod_nonneg _ (by decide), Int.emod_lt_of_pos _ (by decide)⟩ rfl
    refine ⟨s', x', loop_cons ?_ k, k1⟩
    have ht : setTg (.name 1) (.int c) [e0, x, .val cells, .val (.int s)] = some [e0, .val (.int c), .val cells, .val (.int s)] := by
      show (if Ev.isOwnSl (some x) = true then none else _) = _
      rw [hx]
      rfl
    show (match setTg (.name 1) (.int c) [e0, x, .val cells, .val (.int s)] with | some env => _ | none => none) = _
    rw [ht]
    refine run_cons (run_asg (x2 (x1 (x2 (x2 (x2 rfl rfl rfl rfl (mul_ok (by omega) (by omega))) (x2 (x1 rfl rfl rfl) rfl rfl rfl (mod_ok (by decide))) rfl rfl rfl) rfl rfl rfl rfl) rfl rfl) rfl rfl rfl (mod_ok (by decide))) rfl) rfl
def bHeap (s0 m a : Int) : List S := [
  .par [(false, 2), (false, 3)] [(.lc (.op2 .add (.op2 .mul (.cst (.int 2)) (.op1 .abs (.view 1))) (.op1 .int (.op2 .lt (.view 1) (.cst (.int 0))))) (.name 1) (.op2 .sto (.view 0) (.cst (.int 60))) []), (.cst (.int s0))],
  .for (.name 1) (.peek 2) [.asg (.name 3) (.op2 .mod (.op1 .int (.op2 .add (.op2 .add (.op2 .mul (.view 3) (.cst (.int m))) (.op2 .mod (.op1 .int (.view 1)) (.cst (.int 2147483563)))) (.cst (.int a)))) (.cst (.int 2147483647)))],
  .ret (.cell (.lst [(.cell (.op1 .rev (.lc (.var 1) (.name 1) (.view 2) [(.op2 .ge (.view 1) (.op2 .pow (.cst (.int 10)) (.cst (.int 18))))]))), (.var 3)]))]
def fHeap (s0 m a : Int) : Fn := ⟨4, [true], bHeap s0 m a⟩
theorem heap_run (s0 m a : Int) (hs0 : 0 ≤ s0 ∧ s0 < 2147483647) (hm : 0 ≤ m ∧ m < 2 ^ 62) (ns : List Int) : ∃ h, evFn reprL Γ (fHeap s0 m a) [.lst (ns.map D.int)] [] = some (.ok (.ref 1) h) ∧ Box h := by
  generalize hc : cut ns none (some 60) = cs
  have hl : cs.length ≤ 60 := hc ▸ cut60 ns
  generalize hd : (cs.flatMap fun c : Int => [2 * (if c < 0 then -c else c) + (if c < 0 then 1 else 0)]) = ds
  have hdl : ds.length ≤ 60 := by
    rw [← hd, flat1_len]
    exact hl
  have hcell : evE reprL Γ (.lc (.op2 .add (.op2 .mul (.cst (.int 2)) (.op1 .abs (.view 1))) (.op1 .int (.op2 .lt (.view 1) (.cst (.int 0))))) (.name 1) (.op2 .sto (.view 0) (.cst (.int 60))) []) [.bor (.lst (ns.map D.int)), .none, .none, .none] [] = some (.ok (.lst (ds.map D.int)) []) := by
    refine run_lc (s := .lst (cs.map D.int)) (xs := cs.map D.int) (x2 rfl rfl rfl rfl ?_) rfl ?_
    · show some (D.lst (cut (ns.map D.int) none (some 60))) = _
      rw [cut_map, hc]
    · rw [← hd]
      refine comp_ints fun c _ => turn_elt rfl rfl ?_
      have m := mulOk_left (a := 2) (b := if c < 0 then -c else c) (by decide)
      have e : (if decide (c < 0) = true then (1 : Int) else 0) = if c < 0 then 1 else 0 := by simp
      have r := x2 (Γ := Γ) (o := .add) (env := [.bor (.lst (ns.map D.int)), .val (.int c), .none, .none]) (h := []) (x2 (o := .mul) (d := .int (2 * (if c < 0 then -c else c))) (a := .cst (.int 2)) rfl (x1 (o := .abs) (a := .view 1) rfl rfl rfl) rfl rfl (mul_of m)) (x1 (o := .int) (x2 (o := .lt) (a := .view 1) (b := .cst (.int 0)) rfl rfl rfl rfl rfl) rfl rfl) rfl rfl rfl
      rw [e] at r
      exact r
  obtain ⟨s', x', k, k1, k2, k3⟩ := stir_ok (Γ := Γ) m a hm (e0 := .bor (.lst (ns.map D.int))) (cells := .lst (ds.map D.int)) (h := []) ds s0 .none hs0 rfl
  generalize hb : (ds.flatMap fun c : Int => if 1000000000000000000 ≤ c then [c] else []) = bs
  have hbl : bs.length ≤ 60 := by
    refine Nat.le_trans ?_ hdl
    rw [← hb]
    clear hb hcell k hd hdl
    induction ds with
    | nil => exact Nat.le_refl _
    | cons d ds ih =>
      rw [List.flatMap_cons, List.length_append, List.length_cons]
      split
      · simp only [List.length_cons, List.length_nil]
        omega
      · simp only [List.length_nil]
        omega
  have hlast : evE reprL Γ (.lc (.var 1) (.name 1) (.view 2) [(.op2 .ge (.view 1) (.op2 .pow (.cst (.int 10)) (.cst (.int 18))))]) [.bor (.lst (ns.map D.int)), x', .val (.lst (ds.map D.int)), .val (.int s')] [] = some (.ok (.lst (bs.map D.int)) []) := by
    refine run_lc (s := .lst (ds.map D.int)) (xs := ds.map D.int) rfl rfl ?_
    rw [← hb]
    refine comp_ints fun c _ => ?_
    have hcl : clear [.bor (.lst (ns.map D.int)), x', .val (.lst (ds.map D.int)), .val (.int s')] [1] = some [.bor (.lst (ns.map D.int)), .none, .val (.lst (ds.map D.int)), .val (.int s')] := by
      show (if Ev.isOwnSl (some x') = true then none else _) = _
      rw [k3]
      rfl
    have hge := x2 (Γ := Γ) (o := .ge) (env := [.bor (.lst (ns.map D.int)), .val (.int c), .val (.lst (ds.map D.int)), .val (.int s')]) (h := []) (a := .view 1) (b := .op2 .pow (.cst (.int 10)) (.cst (.int 18))) (x := .int c) (y := .int 1000000000000000000) rfl rfl rfl rfl rfl
    by_cases z : 1000000000000000000 ≤ c
    · rw [if_pos z]
      exact turn_T (env2 := [.bor (.lst (ns.map D.int)), .val (.int c), .val (.lst (ds.map D.int)), .val (.int s')]) hcl rfl (by rw [hge, decide_eq_true z]) rfl
    · rw [if_neg z]
      exact turn_F (env2 := [.bor (.lst (ns.map D.int)), .val (.int c), .val (.lst (ds.map D.int)), .val (.int s')]) hcl rfl (by rw [hge, decide_eq_false z])
  refine ⟨box bs.reverse s', fn_ret rfl ?_, _, _, rfl, k1, k2, by rw [List.length_reverse]; exact hbl⟩
  refine run_cons (run_par (xs_cons hcell (xs_cons rfl xs_nil)) rfl) (run_cons (run_for (h' := []) rfl rfl k) (run_ret (run_retE ?_)))
  have hrev := x1 (o := .rev) hlast rfl rfl
  show R.bind (R.bind (R.bind (R.bind (evE reprL _ (.op1 .rev _) _ []) _) _) _) _ = _
  rw [hrev]
  show some (Out.ok (D.ref 1) [D.lst (bs.map D.int).reverse, D.lst [D.ref 0, D.int s']]) = _
  rw [← List.map_reverse]
  rfl
end
/-- a number below many is drawn -/
theorem draw_nat (m a : Int) (hm : 0 ≤ m ∧ m < 2 ^ 62) {Γ : Gm} {h : Ev.Heap} (hb : Box h) (many : Nat) (h1 : 0 < many) (h2 : many < 2 ^ 62) : ∃ (r : Nat) (h' : Ev.Heap), evFn reprL Γ (fDraw m a) [.ref 1, .int many] h = some (.ok (.int r) h') ∧ Box h' ∧ r < many := by
  obtain ⟨cs, s, rfl, q1, q2, q3⟩ := hb
  obtain ⟨r, h', e, hb', r1, r2⟩ := draw_run (Γ := Γ) m a hm cs s many (by omega) (by omega) ⟨q1, q2⟩ q3
  exact ⟨r.toNat, h', by rw [e, Int.toNat_of_nonneg r1], hb', by omega⟩
end Dr
end

section
set_option Elab.async false
set_option linter.all false
set_option maxRecDepth 100000
namespace K01
open PySem L2 Ev Dr
/-! ### the greatest common divisor -/
theorem abs_nat (i : Int) : (if i < 0 then -i else i) = (i.natAbs : Int) := by omega
abbrev cG : E := .op2 .gt (.view 1) (.cst (.int 0))
abbrev bG : List S := [.par [(false, 0), (false, 1)] [(.var 1), (.op2 .mod (.view 0) (.view 1))]]
theorem gcd_loop {Γ : Gm} {h : Ev.Heap} : ∀ (b a : Nat), loopW (whileTurn Γ cG bG) [.val (.int a), .val (.int b)] h = some (.ok (.nx [.val (.int (Nat.gcd a b)), .val (.int 0)]) h)
  | b, a => by
    by_cases z : b = 0
    · subst z
      rw [Nat.gcd_zero_right]
      exact while_F rfl
    · have pos : (0 : Int) < (b : Int) := by omega
      have hm : a % b < b := Nat.mod_lt _ (by omega)
      have next := gcd_loop (h := h) (Γ := Γ) (a % b) b
      rw [show Nat.gcd b (a % b) = Nat.gcd a b by rw [Nat.gcd_comm a b, Nat.gcd_rec b a, Nat.gcd_comm]] at next
      refine while_T (x2 (d := .bl (decide ((0 : Int) < b))) rfl rfl rfl rfl rfl |>.trans ?_) (run_cons (run_par (xs_cons rfl (xs_cons (x2 rfl rfl rfl rfl (mod_ok pos)) xs_nil)) rfl) rfl) next
      rw [decide_eq_true pos]
  termination_by b => b
theorem gcd_run (a b : Int) (h : Ev.Heap) : G1 [.int a, .int b] h = some (.ok (.int (Nat.gcd a.natAbs b.natAbs)) h) := by
  refine fn_ret rfl (run_cons (run_par (xs_cons (x1 (d := .int a.natAbs) rfl rfl ?_) (xs_cons (x1 (d := .int b.natAbs) rfl rfl ?_) xs_nil)) rfl) (run_cons (gcd_loop b.natAbs a.natAbs) (run_ret (run_retE rfl))))
  · show some (D.int (if a < 0 then -a else a)) = _
    rw [abs_nat]
  · show some (D.int (if b < 0 then -b else b)) = _
    rw [abs_nat]
end K01
end

section
set_option Elab.async false
set_option linter.all false
set_option maxRecDepth 100000
namespace K01
open PySem L2 Ev Dr
/-! ### fraction_of -/
/-- the factor: the divisor with the bottom's sign -/
def gs (t b : Int) : Int := if b < 0 then -(Nat.gcd t.natAbs b.natAbs : Int) else (Nat.gcd t.natAbs b.natAbs : Int)
def frT (t b : Int) : Int := t / gs t b
def frB (t b : Int) : Int := b / gs t b
/-- a fraction as the program holds it -/
abbrev fD (t b : Int) : D := .tup [.int t, .int b]
theorem gs_abs (t b : Int) : (gs t b).natAbs = Nat.gcd t.natAbs b.natAbs := by
  unfold gs
  split <;> simp
theorem gs_ne {t b : Int} (hb : b ≠ 0) : gs t b ≠ 0 := fun z => by
  have h := gs_abs t b
  rw [z] at h
  have := Nat.gcd_pos_of_pos_right t.natAbs (Int.natAbs_pos.mpr hb)
  simp at h
  omega
theorem gs_dvd (t b : Int) : gs t b ∣ t ∧ gs t b ∣ b := by
  refine ⟨Int.natAbs_dvd_natAbs.mp ?_, Int.natAbs_dvd_natAbs.mp ?_⟩ <;> rw [gs_abs]
  · exact Nat.gcd_dvd_left _ _
  · exact Nat.gcd_dvd_right _ _
theorem gs_small {t b : Int} (hb : b ≠ 0) : (gs t b).natAbs ≤ b.natAbs := by
  rw [gs_abs]
  exact Nat.gcd_le_right _ (Int.natAbs_pos.mpr hb)
theorem fdiv_exact {a g : Int} (hg : g ≠ 0) (hd : g ∣ a) (hs : g.natAbs < 2 ^ 9000) : o2 .fdiv (.int a) (.int g) = some (.int (a / g)) := by
  show (if (decide (g ≠ 0) && decide (g.natAbs.log2 < 9000)) = true then some (D.int (if 0 < g then a / g else a.fdiv g)) else none) = _
  have hl : g.natAbs.log2 < 9000 := (Nat.log2_lt (by omega)).mpr hs
  rw [if_pos (by simp only [andI, decI]; exact ⟨hg, hl⟩)]
  split
  · rfl
  · rw [Int.fdiv_eq_ediv_of_dvd hd]
theorem eq_int (a b : Int) : o2 .eq (.int a) (.int b) = some (.bl (a == b)) := rfl
theorem frac_zero (t : Int) (h : Ev.Heap) : G3 [.int t, .int 0] h = some (.err 0 ["word"] [.str "zero"] h) := rfl
theorem frac_run {t b : Int} (hb : b ≠ 0) (hs : b.natAbs < 2 ^ 9000) (h : Ev.Heap) : G3 [.int t, .int b] h = some (.ok (fD (frT t b) (frB t b)) h) := by
  have hg := gs_ne (t := t) hb
  have hgs : (gs t b).natAbs < 2 ^ 9000 := Nat.lt_of_le_of_lt (gs_small hb) hs
  have last : ∀ {x : Sl}, evSs reprL T3 [.ret (.tup [(.op2 .fdiv (.view 0) (.view 2)), (.op2 .fdiv (.view 1) (.view 2))])] [.val (.int t), .val (.int b), .val (.int (gs t b))] h = some (.ok (.ret (fD (frT t b) (frB t b))) h) := fun {x} =>
    run_ret (run_retE (xtup (xs_cons (x2 rfl rfl rfl rfl (fdiv_exact hg (gs_dvd t b).1 hgs)) (xs_cons (x2 rfl rfl rfl rfl (fdiv_exact hg (gs_dvd t b).2 hgs)) xs_nil))))
  refine fn_ret rfl (run_cons (env' := [.val (.int t), .val (.int b), .none]) (h' := h) (run_ifF (h' := h) ?_ run_nil) (run_cons (run_asg (xcall (xs_cons rfl (xs_cons rfl xs_nil)) (gcd_run t b h)) rfl) (run_cons (env' := [.val (.int t), .val (.int b), .val (.int (gs t b))]) (h' := h) ?_ (last (x := .none)))))
  · refine (x2 rfl rfl rfl rfl (eq_int b 0)).trans ?_
    rw [show (b == 0) = false by simpa using hb]
  · by_cases z : b < 0
    · refine run_ifT (h' := h) ((x2 (d := .bl (decide (b < 0))) rfl rfl rfl rfl rfl).trans (by rw [decide_eq_true z])) (run_cons (env' := [.val (.int t), .val (.int b), .val (.int (gs t b))]) (run_asg (x1 (d := .int (gs t b)) rfl rfl ?_) rfl) run_nil)
      show some (D.int (-(Nat.gcd t.natAbs b.natAbs : Int))) = some (.int (gs t b))
      unfold gs
      rw [if_pos z]
    · refine (run_ifF (h' := h) (r := some (.ok (.nx [.val (.int t), .val (.int b), .val (.int (Nat.gcd t.natAbs b.natAbs))]) h)) ((x2 (d := .bl (decide (b < 0))) rfl rfl rfl rfl rfl).trans (by rw [decide_eq_false z])) run_nil).trans ?_
      unfold gs
      rw [if_neg z]
end K01
end

section
set_option Elab.async false
set_option linter.all false
set_option maxRecDepth 100000
namespace K01
open PySem L2 Ev Dr
/-! ### sizes; the four operations -/
def Sz (n : Nat) (i : Int) : Prop := i.natAbs < 2 ^ n
theorem Sz.mono {n m : Nat} {i : Int} (h : Sz n i) (k : n ≤ m) : Sz m i := Nat.lt_of_lt_of_le h (Nat.pow_le_pow_right (by decide) k)
theorem Sz.mul {n m : Nat} {a b : Int} (ha : Sz n a) (hb : Sz m b) : Sz (n + m) (a * b) := by
  unfold Sz
  rw [Int.natAbs_mul, Nat.pow_add]
  exact Nat.mul_lt_mul'' ha hb
theorem Sz.add {n : Nat} {a b : Int} (ha : Sz n a) (hb : Sz n b) : Sz (n + 1) (a + b) := by
  unfold Sz at *
  rw [Nat.pow_succ]
  omega
theorem Sz.sub {n : Nat} {a b : Int} (ha : Sz n a) (hb : Sz n b) : Sz (n + 1) (a - b) := by
  unfold Sz at *
  rw [Nat.pow_succ]
  omega
theorem log_sz {n : Nat} {a : Int} (h : Sz n a) : a.natAbs.log2 ≤ n := by
  by_cases z : a.natAbs = 0
  · rw [z]
    exact Nat.zero_le _
  · exact Nat.le_of_lt ((Nat.log2_lt z).mpr h)
theorem mul_sz {n m : Nat} {a b : Int} (ha : Sz n a) (hb : Sz m b) (h : n + m < 1000000) : o2 .mul (.int a) (.int b) = some (.int (a * b)) := by
  refine mul_of ?_
  have h1 := log_sz ha
  have h2 := log_sz hb
  unfold mulOk
  rw [decide_eq_true (show a.natAbs.log2 + b.natAbs.log2 < 1000000 by omega), Bool.or_true]
section
variable {a b c d : Int} {n : Nat} {h : Ev.Heap}
abbrev q0 (i : Nat) : E := .op2 .ix (.view i) (.cst (.int 0))
abbrev q1 (i : Nat) : E := .op2 .ix (.view i) (.cst (.int 1))
abbrev env2 (a b c d : Int) : Ev.Env := [.val (fD a b), .val (fD c d)]
theorem added_run (ha : Sz n a) (hb : Sz n b) (hc : Sz n c) (hd : Sz n d) (hn : n ≤ 4000) (nb : b * d ≠ 0) : G5 [fD a b, fD c d] h = some (.ok (fD (frT (a * d + c * b) (b * d)) (frB (a * d + c * b) (b * d))) h) :=
  fn_ret rfl (run_ret (run_retE (xcall (xs_cons (x2 (x2 (a := q0 0) (b := q1 1) rfl rfl rfl rfl (mul_sz ha hd (by omega))) (x2 (a := q0 1) (b := q1 0) rfl rfl rfl rfl (mul_sz hc hb (by omega))) rfl rfl rfl) (xs_cons (x2 (a := q1 0) (b := q1 1) rfl rfl rfl rfl (mul_sz hb hd (by omega))) xs_nil)) (frac_run nb (show Sz 9000 _ from (hb.mul hd).mono (by omega)) h))))
theorem taken_run (ha : Sz n a) (hb : Sz n b) (hc : Sz n c) (hd : Sz n d) (hn : n ≤ 4000) (nb : b * d ≠ 0) : G6 [fD a b, fD c d] h = some (.ok (fD (frT (a * d - c * b) (b * d)) (frB (a * d - c * b) (b * d))) h) :=
  fn_ret rfl (run_ret (run_retE (xcall (xs_cons (x2 (x2 (a := q0 0) (b := q1 1) rfl rfl rfl rfl (mul_sz ha hd (by omega))) (x2 (a := q0 1) (b := q1 0) rfl rfl rfl rfl (mul_sz hc hb (by omega))) rfl rfl rfl) (xs_cons (x2 (a := q1 0) (b := q1 1) rfl rfl rfl rfl (mul_sz hb hd (by omega))) xs_nil)) (frac_run nb (show Sz 9000 _ from (hb.mul hd).mono (by omega)) h))))
theorem timed_run (ha : Sz n a) (hb : Sz n b) (hc : Sz n c) (hd : Sz n d) (hn : n ≤ 4000) (nb : b * d ≠ 0) : G7 [fD a b, fD c d] h = some (.ok (fD (frT (a * c) (b * d)) (frB (a * c) (b * d))) h) :=
  fn_ret rfl (run_ret (run_retE (xcall (xs_cons (x2 (a := q0 0) (b := q0 1) rfl rfl rfl rfl (mul_sz ha hc (by omega))) (xs_cons (x2 (a := q1 0) (b := q1 1) rfl rfl rfl rfl (mul_sz hb hd (by omega))) xs_nil)) (frac_run nb (show Sz 9000 _ from (hb.mul hd).mono (by omega)) h))))
theorem divided_run (ha : Sz n a) (hb : Sz n b) (hc : Sz n c) (hd : Sz n d) (hn : n ≤ 4000) (nb : b * c ≠ 0) : G8 [fD a b, fD c d] h = some (.ok (fD (frT (a * d) (b * c)) (frB (a * d) (b * c))) h) :=
  fn_ret rfl (run_ret (run_retE (xcall (xs_cons (x2 (a := q0 0) (b := q1 1) rfl rfl rfl rfl (mul_sz ha hd (by omega))) (xs_cons (x2 (a := q1 0) (b := q0 1) rfl rfl rfl rfl (mul_sz hb hc (by omega))) xs_nil)) (frac_run nb (show Sz 9000 _ from (hb.mul hc).mono (by omega)) h))))
theorem run_exc {Γ : Gm} {s : S} {ss : List S} {env env' : Ev.Env} {h h' : Ev.Heap} {c : Nat} {ns : List Str} {fs : List D} (e : evS reprL Γ s env h = some (.ok (.exc env' c ns fs) h')) : evSs reprL Γ (s :: ss) env h = some (.ok (.exc env' c ns fs) h') := by
  show R.bind (evS reprL Γ s env h) _ = _
  rw [e]
  rfl
theorem run_retX {Γ : Gm} {a : E} {env : Ev.Env} {h h' : Ev.Heap} {c : Nat} {ns : List Str} {fs : List D} (e : evE reprL Γ a env h = some (.err c ns fs h')) : evS reprL Γ (.ret a) env h = some (.ok (.exc env c ns fs) h') := by
  show R.bindS (evE reprL Γ a env h) env _ = _
  rw [e]
  rfl
theorem divided_zero (ha : Sz n a) (hb : Sz n b) (hd : Sz n d) (hn : n ≤ 4000) : G8 [fD a b, fD 0 d] h = some (.err 0 ["word"] [.str "zero"] h) := by
  refine fn_exc (env := env2 a b 0 d) rfl (run_exc (run_retX (xcallErr (xs_cons (x2 (a := q0 0) (b := q1 1) rfl rfl rfl rfl (mul_sz ha hd (by omega))) (xs_cons (x2 (a := q1 0) (b := q0 1) (d := .int 0) rfl rfl rfl rfl ?_) xs_nil)) (frac_zero (a * d) h))))
  rw [mul_sz hb (show Sz 1 0 by unfold Sz; decide) (by omega), Int.mul_zero]
theorem less_run (ha : Sz n a) (hb : Sz n b) (hc : Sz n c) (hd : Sz n d) (hn : n ≤ 4000) : G9 [fD a b, fD c d] h = some (.ok (.bl (decide (a * d < c * b))) h) :=
  fn_ret rfl (run_ret (run_retE (x2 (x2 (a := q0 0) (b := q1 1) rfl rfl rfl rfl (mul_sz ha hd (by omega))) (x2 (a := q0 1) (b := q1 0) rfl rfl rfl rfl (mul_sz hc hb (by omega))) rfl rfl rfl)))
end
end K01
end

section
set_option Elab.async false
set_option linter.all false
set_option maxRecDepth 100000
namespace K01
open PySem L2 Ev Dr
/-! ### the law's own divisor, in 4000 turns at most -/
abbrev bDv : List S := [.ifs (.op2 .eq (.view 1) (.cst (.int 0))) [.brk] [], .par [(false, 0), (false, 1)] [(.var 1), (.op2 .mod (.op1 .int (.view 0)) (.view 1))]]
section
variable {Γ : Gm} {h : Ev.Heap}
theorem dv_set {a b : Nat} {x : Sl} {z : D} (hx : isOwnSl (some x) = false) : setTg (.name 2) z [.val (.int a), .val (.int b), x] = some [.val (.int a), .val (.int b), .val z] := by
  show (if isOwnSl (some x) = true then none else _) = _
  rw [hx]
  rfl
theorem dv_stop {a : Nat} {z : D} {zs : List D} {x : Sl} (hx : isOwnSl (some x) = false) : forLoop (forTurn Γ (.name 2) bDv) (z :: zs) [.val (.int a), .val (.int (0 : Nat)), x] h = some (.ok (.nx [.val (.int a), .val (.int (0 : Nat)), .val z]) h) := by
  show R.bind (match setTg (.name 2) z [.val (.int a), .val (.int (0 : Nat)), x] with | some env => evSs reprL Γ bDv env h | none => none) _ = _
  rw [dv_set hx]
  rfl
theorem dv_turn {a b : Nat} {z : D} {x : Sl} (hx : isOwnSl (some x) = false) (hb : b ≠ 0) : forTurn Γ (.name 2) bDv z [.val (.int a), .val (.int b), x] h = some (.ok (.nx [.val (.int b), .val (.int (a % b : Nat)), .val z]) h) := by
  show (match setTg (.name 2) z [.val (.int a), .val (.int b), x] with | some env => evSs reprL Γ bDv env h | none => none) = _
  rw [dv_set hx]
  have pos : (0 : Int) < (b : Int) := by omega
  refine run_cons (run_ifF (h' := h) ((x2 rfl rfl rfl rfl (eq_int b 0)).trans ?_) run_nil) (run_cons (run_par (xs_cons rfl (xs_cons (x2 (x1 rfl rfl rfl) rfl rfl rfl (mod_ok pos)) xs_nil)) rfl) rfl)
  rw [show ((b : Int) == 0) = false by simpa using hb]
theorem dv_loop : ∀ (n a b : Nat) (xs : List D) (x : Sl), isOwnSl (some x) = false → b ≤ a → a * b < 2 ^ n → n ≤ xs.length → ∃ x', forLoop (forTurn Γ (.name 2) bDv) xs [.val (.int a), .val (.int b), x] h = some (.ok (.nx [.val (.int (Nat.gcd a b)), .val (.int (0 : Nat)), x']) h)
  | n, a, b, xs, x, hx, le, lt, len => by
    by_cases z : b = 0
    · subst z
      rw [Nat.gcd_zero_right]
      cases xs with
      | nil => exact ⟨x, rfl⟩
      | cons y ys => exact ⟨.val y, dv_stop hx⟩
    · cases n with
      | zero =>
        have : 1 ≤ a * b := Nat.mul_pos (by omega) (by omega)
        rw [Nat.pow_zero] at lt
        omega
      | succ n =>
        cases xs with
        | nil =>
          rw [List.length_nil] at len
          omega
        | cons y ys =>
          have r1 : a % b < b := Nat.mod_lt _ (by omega)
          have r2 : 2 * (a % b) ≤ a := by
            have := Nat.mod_add_div a b
            have q : 1 ≤ a / b := (Nat.le_div_iff_mul_le (by omega)).mpr (by omega)
            have : b * 1 ≤ b * (a / b) := Nat.mul_le_mul_left b q
            omega
          have r3 : b * (a % b) < 2 ^ n := by
            have h1 : 2 * (b * (a % b)) ≤ a * b := by
              have := Nat.mul_le_mul_left b r2
              rw [Nat.mul_comm a b]
              calc 2 * (b * (a % b)) = b * (2 * (a % b)) := by rw [← Nat.mul_assoc, Nat.mul_comm 2 b, Nat.mul_assoc]
                _ ≤ b * a := this
            rw [Nat.pow_succ] at lt
            omega
          obtain ⟨x', k⟩ := dv_loop n b (a % b) ys (.val y) rfl (Nat.le_of_lt r1) r3 (by rw [List.length_cons] at len; omega)
          refine ⟨x', loop_cons (dv_turn hx z) ?_⟩
          rw [k, show Nat.gcd b (a % b) = Nat.gcd a b by rw [Nat.gcd_comm a b, Nat.gcd_rec b a, Nat.gcd_comm]]
/-- the larger one may come second -/
theorem dv_any {n a b : Nat} {xs : List D} {x : Sl} (hx : isOwnSl (some x) = false) (lt : a * b < 2 ^ n) (len : n + 1 ≤ xs.length) : ∃ x', forLoop (forTurn Γ (.name 2) bDv) xs [.val (.int a), .val (.int b), x] h = some (.ok (.nx [.val (.int (Nat.gcd a b)), .val (.int (0 : Nat)), x']) h) := by
  by_cases le : b ≤ a
  · exact dv_loop n a b xs x hx le lt (by omega)
  · cases xs with
    | nil =>
      rw [List.length_nil] at len
      omega
    | cons y ys =>
      have e : a % b = a := Nat.mod_eq_of_lt (by omega)
      obtain ⟨x', k⟩ := dv_loop (Γ := Γ) (h := h) n b a ys (.val y) rfl (by omega) (by rw [Nat.mul_comm]; exact lt) (by rw [List.length_cons] at len; omega)
      refine ⟨x', loop_cons (dv_turn hx (by omega)) ?_⟩
      rw [e, k, Nat.gcd_comm]
end
theorem law_div {n m : Nat} {a b : Int} (ha : Sz n a) (hb : Sz m b) (hn : n + m ≤ 3990) (h : Ev.Heap) : G16 [.int a, .int b] h = some (.ok (.int (Nat.gcd a.natAbs b.natAbs)) h) := by
  have lt : a.natAbs * b.natAbs < 2 ^ (n + m) := by
    rw [Nat.pow_add]
    exact Nat.mul_lt_mul'' ha hb
  obtain ⟨x', k⟩ := dv_any (Γ := T16) (h := h) (xs := rangeD 0 1 4000) (x := .none) rfl lt (by unfold rangeD; rw [List.length_map, List.length_range]; omega)
  refine fn_ret rfl (run_cons (env' := [.val (.int a.natAbs), .val (.int b.natAbs), .none]) (run_par (xs_cons (x1 (d := .int a.natAbs) rfl rfl ?_) (xs_cons (x1 (d := .int b.natAbs) rfl rfl ?_) xs_nil)) rfl) (run_cons (run_for (s := .lst (rangeD 0 1 4000)) (x1 rfl rfl rfl) rfl k) (run_ret (run_retE rfl))))
  · show some (D.int (if a < 0 then -a else a)) = _
    rw [abs_nat]
  · show some (D.int (if b < 0 then -b else b)) = _
    rw [abs_nat]
end K01
end

section
set_option Elab.async false
set_option linter.all false
set_option maxRecDepth 100000
namespace K01
open PySem L2 Ev Dr
/-! ### what is a fraction -/
def isI : D → Bool
  | .int _ => true
  | _ => false
theorem isInt_o {x : D} (p : D.plain x = true) : o1 reprL .isInt x = some (.bl x.isInt) := if_pos p
theorem isBool_o {x : D} (p : D.plain x = true) : o1 reprL .isBool x = some (.bl x.isBool) := if_pos p
theorem isTup_o {x : D} (p : D.plain x = true) : o1 reprL .isTup x = some (.bl x.isTup) := if_pos p
theorem flat_of {h : Ev.Heap} {x : D} (p : D.plain x = true) : deref h x = some x := by
  cases x <;> first | rfl | cases p
theorem whole_e {Γ : Gm} {x : D} {h : Ev.Heap} (p : D.plain x = true) : evE reprL Γ (.and (.op1 .isInt (.view 0)) (.op1 .not (.op1 .isBool (.view 0)))) [.val x] h = some (.ok (.bl (isI x)) h) := by
  have a := x1 (Γ := Γ) (env := [.val x]) (h := h) (a := .view 0) (o := .isInt) rfl (flat_of p) (isInt_o p)
  have b := x1 (Γ := Γ) (env := [.val x]) (h := h) (a := .view 0) (o := .isBool) rfl (flat_of p) (isBool_o p)
  show R.bind (evE reprL Γ (.op1 .isInt (.view 0)) [.val x] h) _ = _
  rw [a]
  cases x <;> first | rfl | skip
  all_goals
    show R.bind (evE reprL Γ (.op1 .isBool (.view 0)) _ h) _ = _
    rw [b]
    rfl
theorem isint_run {x : D} (p : D.plain x = true) (h : Ev.Heap) : G0 [x] h = some (.ok (.bl (isI x)) h) := fn_ret rfl (run_ret (run_retE (whole_e p)))
theorem iswhole_run {x : D} (p : D.plain x = true) (h : Ev.Heap) : G17 [x] h = some (.ok (.bl (isI x)) h) := fn_ret rfl (run_ret (run_retE (whole_e p)))
/-- in lowest terms, the bottom positive -/
def isF : D → Bool
  | .tup [.int a, .int b] => decide (0 < b) && (Nat.gcd a.natAbs b.natAbs == 1)
  | _ => false
/-- sizes of a pair of ints -/
def PairSz (n : Nat) : D → Prop
  | .tup [.int a, .int b] => Sz n a ∧ Sz n b
  | _ => True
section
variable {a b : Int} {h : Ev.Heap}
theorem gt_e {Γ : Gm} {env : Ev.Env} (e : evE reprL Γ (q1 0) env h = some (.ok (.int b) h)) : evE reprL Γ (.op2 .gt (q1 0) (.cst (.int 0))) env h = some (.ok (.bl (decide (0 < b))) h) := x2 e rfl rfl rfl rfl
theorem and_e {Γ : Gm} {env : Ev.Env} {x y : E} {u v : Bool} (e : evE reprL Γ x env h = some (.ok (.bl u) h)) (k : u = true → evE reprL Γ y env h = some (.ok (.bl v) h)) : evE reprL Γ (.and x y) env h = some (.ok (.bl (u && v)) h) := by
  cases u with
  | true => exact xandT e (k rfl)
  | false =>
    show R.bind (evE reprL Γ x env h) _ = _
    rw [e]
    rfl
theorem or_e {Γ : Gm} {env : Ev.Env} {x y : E} {u v : Bool} (e : evE reprL Γ x env h = some (.ok (.bl u) h)) (k : u = false → evE reprL Γ y env h = some (.ok (.bl v) h)) : evE reprL Γ (.or x y) env h = some (.ok (.bl (u || v)) h) := by
  cases u with
  | false => exact xorF e (k rfl)
  | true =>
    show R.bind (evE reprL Γ x env h) _ = _
    rw [e]
    rfl
theorem not_e {Γ : Gm} {env : Ev.Env} {x : E} {u : Bool} (e : evE reprL Γ x env h = some (.ok (.bl u) h)) : evE reprL Γ (.op1 .not x) env h = some (.ok (.bl (!u)) h) := x1 e rfl rfl
theorem one_eq (k : Nat) : ((k : Int) == 1) = (k == 1) := by
  rw [Bool.eq_iff_iff, beq_iff_eq, beq_iff_eq]
  omega
theorem lawfr_pair {n : Nat} (ha : Sz n a) (hb : Sz n b) (hn : n ≤ 1990) : G18 [fD a b] h = some (.ok (.bl (isF (fD a b))) h) := by
  refine fn_ret rfl (run_cons (env' := [.val (fD a b)]) (h' := h) (run_ifF (h' := h) ?_ run_nil) (run_ret (run_retE (and_e (gt_e rfl) fun _ => ?_))))
  · refine xorF (x1 (d := .bl false) (x1 (d := .bl true) rfl rfl rfl) rfl rfl) (xorF (x2 (d := .bl false) (x1 (d := .int 2) rfl rfl rfl) rfl rfl rfl rfl) (xorF (not_e (u := true) (xcall (xs_cons rfl xs_nil) (iswhole_run (x := .int a) rfl h))) (not_e (u := true) (xcall (xs_cons rfl xs_nil) (iswhole_run (x := .int b) rfl h)))))
  · refine (x2 (xcall (xs_cons rfl (xs_cons rfl xs_nil)) (law_div ha hb (by omega) h)) rfl rfl rfl (eq_int _ 1)).trans ?_
    rw [one_eq]
theorem fr_pair : G4 [fD a b] h = some (.ok (.bl (isF (fD a b))) h) := by
  refine fn_ret rfl (run_cons (env' := [.val (fD a b), .none]) (h' := h) (run_ifF (h' := h) ?_ run_nil) (run_ret (run_retE (and_e (gt_e rfl) fun _ => ?_))))
  · refine xorF (x1 (d := .bl false) (x1 (d := .bl true) rfl rfl rfl) rfl rfl) (xorF (x2 (d := .bl false) (x1 (d := .int 2) rfl rfl rfl) rfl rfl rfl rfl) (not_e (u := true) ?_))
    exact x1 (run_lc (s := fD a b) (xs := [.int a, .int b]) rfl rfl (comp_cons (turn_elt rfl rfl (xcall (xs_cons rfl xs_nil) (isint_run (x := .int a) rfl h))) (comp_cons (turn_elt rfl rfl (xcall (xs_cons rfl xs_nil) (isint_run (x := .int b) rfl h))) comp_nil))) rfl rfl
  · refine (x2 (xcall (xs_cons rfl (xs_cons rfl xs_nil)) (gcd_run a b h)) rfl rfl rfl (eq_int _ 1)).trans ?_
    rw [one_eq]
end
end K01
end

section
set_option Elab.async false
set_option linter.all false
set_option maxRecDepth 100000
namespace K01
open PySem L2 Ev Dr
/-! ### lowest terms -/
section
variable {t b : Int}
theorem frT_mul : frT t b * gs t b = t := Int.ediv_mul_cancel (gs_dvd t b).1
theorem frB_mul : frB t b * gs t b = b := Int.ediv_mul_cancel (gs_dvd t b).2
theorem fr_cross : frT t b * b = t * frB t b := by
  have h1 := frT_mul (t := t) (b := b)
  have h2 := frB_mul (t := t) (b := b)
  calc frT t b * b = frT t b * (frB t b * gs t b) := by rw [h2]
    _ = (frT t b * gs t b) * frB t b := by rw [Int.mul_assoc, Int.mul_comm (frB t b) (gs t b)]
    _ = t * frB t b := by rw [h1]
theorem frB_pos (hb : b ≠ 0) : 0 < frB t b := by
  have h2 := frB_mul (t := t) (b := b)
  have hp := Nat.gcd_pos_of_pos_right t.natAbs (Int.natAbs_pos.mpr hb)
  refine Int.lt_of_not_ge fun le => ?_
  unfold gs at h2
  split at h2
  · rename_i neg
    have := Int.mul_nonneg_of_nonpos_of_nonpos le (show -(Nat.gcd t.natAbs b.natAbs : Int) ≤ 0 by omega)
    omega
  · rename_i pos
    have := Int.mul_nonpos_of_nonpos_of_nonneg le (show (0 : Int) ≤ (Nat.gcd t.natAbs b.natAbs : Int) by omega)
    omega
theorem fr_abs (hb : b ≠ 0) : (frT t b).natAbs * Nat.gcd t.natAbs b.natAbs = t.natAbs ∧ (frB t b).natAbs * Nat.gcd t.natAbs b.natAbs = b.natAbs := by
  rw [← gs_abs, ← Int.natAbs_mul, ← Int.natAbs_mul, frT_mul, frB_mul]
  exact ⟨rfl, rfl⟩
theorem fr_gcd (hb : b ≠ 0) : Nat.gcd (frT t b).natAbs (frB t b).natAbs = 1 := by
  have hp := Nat.gcd_pos_of_pos_right t.natAbs (Int.natAbs_pos.mpr hb)
  obtain ⟨h1, h2⟩ := fr_abs (t := t) hb
  have e := Nat.gcd_mul_right (frT t b).natAbs (Nat.gcd t.natAbs b.natAbs) (frB t b).natAbs
  rw [h1, h2] at e
  exact Nat.eq_of_mul_eq_mul_right hp (by rw [Nat.one_mul, ← e])
theorem fr_isF (hb : b ≠ 0) : isF (fD (frT t b) (frB t b)) = true := by
  show (decide (0 < frB t b) && (Nat.gcd (frT t b).natAbs (frB t b).natAbs == 1)) = true
  rw [decide_eq_true (frB_pos hb), fr_gcd hb]
  rfl
theorem fr_sz {n : Nat} (hb : b ≠ 0) (ht : Sz n t) (hs : Sz n b) : Sz n (frT t b) ∧ Sz n (frB t b) := by
  have hp := Nat.gcd_pos_of_pos_right t.natAbs (Int.natAbs_pos.mpr hb)
  obtain ⟨h1, h2⟩ := fr_abs (t := t) hb
  have k1 := Nat.le_mul_of_pos_right (frT t b).natAbs hp
  have k2 := Nat.le_mul_of_pos_right (frB t b).natAbs hp
  unfold Sz at *
  omega
end
/-! ### _law_equal -/
section
variable {p q t b : Int} {n m : Nat} {h : Ev.Heap}
theorem lequal_run (hp : Sz n p) (hq : Sz n q) (hn : n ≤ 1990) (ht : Sz m t) (hb : Sz m b) (hm : m ≤ 100000) : G19 [fD p q, .int t, .int b] h = some (.ok (.bl (isF (fD p q) && (p * b == t * q))) h) :=
  fn_ret rfl (run_ret (run_retE (and_e (xcall (xs_cons rfl xs_nil) (lawfr_pair hp hq hn)) fun _ => x2 (x2 (a := q0 0) (b := .view 2) rfl rfl rfl rfl (mul_sz hp hb (by omega))) (x2 (a := .view 1) (b := q1 0) rfl rfl rfl rfl (mul_sz ht hq (by omega))) rfl rfl (eq_int _ _))))
/-- of what fraction_of gives -/
theorem lequal_fr (hb0 : b ≠ 0) (ht : Sz n t) (hb : Sz n b) (hn : n ≤ 1990) : G19 [fD (frT t b) (frB t b), .int t, .int b] h = some (.ok (.bl true) h) := by
  obtain ⟨k1, k2⟩ := fr_sz hb0 ht hb
  rw [lequal_run k1 k2 hn ht hb (by omega), fr_isF hb0, fr_cross, beq_self_eq_true]
  rfl
end
end K01
end

section
set_option Elab.async false
set_option linter.all false
set_option maxRecDepth 100000
namespace K01
open PySem L2 Ev Dr
/-! ### a pair of fractions -/
theorem ne_fD {x y : Int} : o2 .ne (fD x y) (fD x y) = some (.bl false) := by
  show some (D.bl (!((x == x) && ((y == y) && true)))) = _
  rw [beq_self_eq_true, beq_self_eq_true]
  rfl
theorem eq_fD {x y : Int} : o2 .eq (fD x y) (fD x y) = some (.bl true) := by
  show some (D.bl ((x == x) && ((y == y) && true))) = _
  rw [beq_self_eq_true, beq_self_eq_true]
  rfl
theorem ne_str {s : Str} : o2 .ne (.str s) (.str s) = some (.bl false) := by
  show some (D.bl (!(s == s))) = _
  rw [beq_self_eq_true]
  rfl
theorem ne_bl {x : Bool} : o2 .ne (.bl x) (.bl x) = some (.bl false) := by cases x <;> rfl
theorem repr_bl {Γ : Gm} {env : Ev.Env} {h : Ev.Heap} {e : E} {x : Bool} (k : evE reprL Γ e env h = some (.ok (.bl x) h)) : evE reprL Γ (.op1 .repr e) env h = some (.ok (.str (reprL.text (.bl x))) h) := x1 k rfl (by cases x <;> rfl)
/-- skip a test that fails -/
theorem skipI {Γ : Gm} {env : Ev.Env} {h : Ev.Heap} {t : E} {a ss : List S} {r : R Ev.Flow} (e : evE reprL Γ t env h = some (.ok (.bl false) h)) (k : evSs reprL Γ ss env h = r) : evSs reprL Γ (.ifs t a [] :: ss) env h = r := run_cons (run_ifF e run_nil) k
theorem take {Γ : Gm} {env : Ev.Env} {h : Ev.Heap} {t : E} {b ss : List S} {d : D} (e : evE reprL Γ t env h = some (.ok (.bl true) h)) {x : E} (k : evE reprL Γ x env h = some (.ok d h)) : evSs reprL Γ (.ifs t [.ret x] b :: ss) env h = some (.ok (.ret d) h) := run_ret (run_ifT e (run_ret (run_retE k)))
/-- what _law_heard says -/
theorem hear_zero {act : Ev.Heap → R D} {h : Ev.Heap} (k : act h = some (.err 0 ["word"] [.str "zero"] h)) : A23 act h = some (.ok (.str "zero") h) := by
  have e : evSs reprL { (tab []) with act := act } b23 [.none, .none] h = some (.ok (.ret (.str "zero")) h) := by
    refine run_ret ?_
    show R.bind (R.bind (R.bindS (act h) _ _) _) _ = _
    rw [k]
    rfl
  show R.bind (calmly (evSs reprL { (tab []) with act := act } b23 [.none, .none] h)) _ = _
  rw [e]
  rfl
theorem hear_barred {act : Ev.Heap → R D} {h : Ev.Heap} (k : act h = some (.err 1 ["word"] [.str "barred"] h)) : A23 act h = some (.ok (.str "refused barred") h) := by
  have e : evSs reprL { (tab []) with act := act } b23 [.none, .none] h = some (.ok (.ret (.str "refused barred")) h) := by
    refine run_ret ?_
    show R.bind (R.bind (R.bindS (act h) _ _) _) _ = _
    rw [k]
    rfl
  show R.bind (calmly (evSs reprL { (tab []) with act := act } b23 [.none, .none] h)) _ = _
  rw [e]
  rfl
theorem heard_e {Γ : Gm} {env : Ev.Env} {h : Ev.Heap} {e : E} {d : D} (hA : Γ.fnA 0 = A23) (k : A23 (fun h => evE reprL Γ e env h) h = some (.ok d h)) : evE reprL Γ (.heard 0 e) env h = some (.ok d h) := by
  show calmly (Γ.fnA 0 (fun h => evE reprL Γ e env h) h) = _
  rw [hA, k]
  rfl
section
variable {a b c d : Int} {n : Nat} {h : Ev.Heap}
theorem pair_right (ha : Sz n a) (hb : Sz n b) (hc : Sz n c) (hd : Sz n d) (hn : n ≤ 900) (pb : 0 < b) (pd : 0 < d) : G24 [fD a b, fD c d] h = some (.ok (.bl true) h) := by
  have nbd : b * d ≠ 0 := Int.mul_ne_zero (by omega) (by omega)
  have sbd : Sz (n + n + 1) (b * d) := (hb.mul hd).mono (by omega)
  have add := added_run (h := h) ha hb hc hd (by omega) nbd
  have tak := taken_run (h := h) ha hb hc hd (by omega) nbd
  have tim := timed_run (h := h) ha hb hc hd (by omega) nbd
  have les := less_run (h := h) ha hb hc hd (by omega)
  have sad : Sz (n + n + 1) (a * d + c * b) := (ha.mul hd).add (hc.mul hb)
  have ssu : Sz (n + n + 1) (a * d - c * b) := (ha.mul hd).sub (hc.mul hb)
  have sac : Sz (n + n + 1) (a * c) := (ha.mul hc).mono (by omega)
  have M : ∀ {i j : Nat} {x y : Int} {env : Ev.Env}, evE reprL T24 (.view i) env h = some (.ok (.int x) h) → evE reprL T24 (.view j) env h = some (.ok (.int y) h) → Sz n x → Sz n y → evE reprL T24 (.op2 .mul (.view i) (.view j)) env h = some (.ok (.int (x * y)) h) := fun e1 e2 s1 s2 => x2 e1 e2 rfl rfl (mul_sz s1 s2 (by omega))
  let env : Ev.Env := [.val (fD a b), .val (fD c d), .val (.int a), .val (.int b), .val (.int c), .val (.int d)]
  have m25 := M (i := 2) (j := 5) (env := env) rfl rfl ha hd
  have m43 := M (i := 4) (j := 3) (env := env) rfl rfl hc hb
  have m35 := M (i := 3) (j := 5) (env := env) rfl rfl hb hd
  have m24 := M (i := 2) (j := 4) (env := env) rfl rfl ha hc
  have m34 := M (i := 3) (j := 4) (env := env) rfl rfl hb hc
  have two : ∀ {e1 e2 e3 : E} {x t u : Int} {v : D}, evE reprL T24 e1 env h = some (.ok v h) → evE reprL T24 e2 env h = some (.ok (.int t) h) → evE reprL T24 e3 env h = some (.ok (.int u) h) → G19 [v, .int t, .int u] h = some (.ok (.bl true) h) → evE reprL T24 (.op1 .not (.call 19 [e1, e2, e3])) env h = some (.ok (.bl false) h) := fun e1 e2 e3 k => not_e (u := true) (xcall (xs_cons e1 (xs_cons e2 (xs_cons e3 xs_nil))) k)
  have args : evEs reprL T24 [(.var 0), (.var 1)] env h = some (.ok [fD a b, fD c d] h) := rfl
  have swap : evEs reprL T24 [(.var 1), (.var 0)] env h = some (.ok [fD c d, fD a b] h) := rfl
  refine fn_ret rfl (run_cons (env' := env) (h' := h) rfl ?_)
  refine skipI (two (x := 0) (xcall args add) (x2 m25 m43 rfl rfl rfl) m35 (lequal_fr nbd sad sbd (by omega))) ?_
  refine skipI (two (x := 0) (xcall args tak) (x2 m25 m43 rfl rfl rfl) m35 (lequal_fr nbd ssu sbd (by omega))) ?_
  refine skipI (xorF (two (x := 0) (xcall args tim) m24 m35 (lequal_fr nbd sac sbd (by omega))) (x2 (repr_bl (xcall args les)) (repr_bl (x2 m25 m43 rfl rfl rfl)) rfl rfl ne_str)) ?_
  refine skipI (xorF (x2 (xcallK swap rfl add) (xcall args add) rfl rfl ne_fD) (x2 (xcallK swap rfl tak) (xcall args tak) rfl rfl ne_fD)) ?_
  refine skipI (xorF (x2 (xcallK swap rfl tim) (xcall args tim) rfl rfl ne_fD) (x2 (xcallK swap rfl les) (xcall args les) rfl rfl ne_bl)) ?_
  by_cases z : c = 0
  · subst z
    exact take rfl (x2 (heard_e rfl (hear_zero (xcallErr args (divided_zero ha hb hd (by omega))))) rfl rfl rfl rfl)
  · have nbc : b * c ≠ 0 := Int.mul_ne_zero (by omega) z
    have div := divided_run (h := h) ha hb hc hd (by omega) nbc
    refine skipI ((x2 rfl rfl rfl rfl (eq_int c 0)).trans (by rw [show (c == 0) = false by simpa using z])) (run_ret (run_retE ?_))
    exact xandT (xcall (xs_cons (xcall args div) (xs_cons m25 (xs_cons m34 xs_nil))) (lequal_fr nbc ((ha.mul hd).mono (show n + n ≤ n + n by omega)) (hb.mul hc) (by omega))) (x2 (xcallK swap rfl div) (xcall args div) rfl rfl eq_fD)
end
end K01
end

section
set_option Elab.async false
set_option linter.all false
set_option maxRecDepth 100000
namespace K01
open PySem L2 Ev Dr
/-! ### draws -/
theorem draw {h : Ev.Heap} (hb : Box h) (many : Nat) (h1 : 0 < many) (h2 : many < 2 ^ 62) : ∃ (r : Nat) (h' : Ev.Heap), G14 [.ref 1, .int many] h = some (.ok (.int r) h') ∧ Box h' ∧ r < many := draw_nat (Γ := T14) 48271 17 (by decide) hb many h1 h2
theorem ix_get {xs : List D} {i : Nat} {x : D} (h : xs[i]? = some x) : o2 .ix (.lst xs) (.int i) = some x := by
  have hi : i < xs.length := (List.getElem?_eq_some_iff.mp h).1
  show Ev.atI xs (i : Int) = _
  unfold Ev.atI Ev.ixN
  rw [if_pos (by omega), if_pos (by omega)]
  show xs[(i : Int).toNat]? = _
  rw [Int.toNat_natCast]
  exact h
theorem pick {h : Ev.Heap} (hb : Box h) {xs : List D} (ne : 0 < xs.length) (few : xs.length < 2 ^ 62) : ∃ (x : D) (h' : Ev.Heap), x ∈ xs ∧ G15 [.ref 1, .lst xs] h = some (.ok x h') ∧ Box h' := by
  obtain ⟨r, h', e, hb', lt⟩ := draw hb xs.length ne few
  refine ⟨xs[r], h', List.getElem_mem lt, fn_ret rfl (run_ret (run_retE (x2 rfl (xcall (xs_cons rfl (xs_cons (x1 rfl rfl rfl) xs_nil)) e) rfl rfl (ix_get (List.getElem?_eq_getElem lt))))), hb'⟩
/-- an expression that draws an int of at most n bits -/
def Dw (Γ : Gm) (n : Nat) (e : E) (env : Ev.Env) : Prop := ∀ h, Box h → ∃ (v : Int) (h' : Ev.Heap), evE reprL Γ e env h = some (.ok (.int v) h') ∧ Box h' ∧ Sz n v
section
variable {Γ : Gm} {n : Nat} {env : Ev.Env}
theorem Dw.all : ∀ {es : List E}, (∀ e ∈ es, Dw Γ n e env) → ∀ h, Box h → ∃ (vs : List Int) (h' : Ev.Heap), evEs reprL Γ es env h = some (.ok (vs.map D.int) h') ∧ Box h' ∧ vs.length = es.length ∧ ∀ v ∈ vs, Sz n v
  | [], _, h, hb => ⟨[], h, rfl, hb, rfl, fun v hv => by cases hv⟩
  | e :: es, H, h, hb => by
    obtain ⟨v, h1, k1, b1, s1⟩ := H e List.mem_cons_self h hb
    obtain ⟨vs, h2, k2, b2, l2, s2⟩ := Dw.all (fun e he => H e (List.mem_cons_of_mem _ he)) h1 b1
    exact ⟨v :: vs, h2, xs_cons k1 k2, b2, congrArg (· + 1) l2, fun w hw => (List.mem_cons.mp hw).elim (fun z => z ▸ s1) (s2 w)⟩
theorem Dw.draw {many : Nat} {x : E} (hΓ : Γ.fn 14 = G14) (h0 : env[0]? = some (.val (.ref 1))) (ex : ∀ h, evE reprL Γ x env h = some (.ok (.int many) h)) (h1 : 0 < many) (h2 : many < 2 ^ 62) (hn : 62 ≤ n) : Dw Γ n (.call 14 [(.var 0), x]) env := fun h hb => by
  obtain ⟨r, h', e, hb', lt⟩ := K01.draw hb many h1 h2
  refine ⟨r, h', xcall (xs_cons (show lift h (Sl.get env[0]?) = _ by rw [h0]; rfl) (xs_cons (ex h) xs_nil)) (by rw [hΓ]; exact e), hb', ?_⟩
  have : Sz 62 (r : Int) := by
    unfold Sz
    rw [Int.natAbs_natCast]
    omega
  exact this.mono hn
end
theorem ten {Γ : Gm} {env : Ev.Env} {h : Ev.Heap} {k : Nat} {r : Int} (e : o2 .pow (.int 10) (.int k) = some (.int r)) : evE reprL Γ (.op2 .pow (.cst (.int 10)) (.cst (.int k))) env h = some (.ok (.int r) h) := x2 rfl rfl rfl rfl e
theorem integer_run {h : Ev.Heap} (hb : Box h) : ∃ (v : Int) (h' : Ev.Heap), G20 [.ref 1] h = some (.ok (.int v) h') ∧ Box h' ∧ Sz 103 v := by
  have p6 : ∀ {env : Ev.Env} h, evE reprL T20 (.op2 .pow (.cst (.int 10)) (.cst (.int 6))) env h = some (.ok (.int (1000000 : Nat)) h) := fun h => x2 rfl rfl rfl rfl rfl
  have p9 : ∀ {env : Ev.Env} h, evE reprL T20 (.op2 .pow (.cst (.int 10)) (.cst (.int 9))) env h = some (.ok (.int (1000000000 : Nat)) h) := fun h => x2 rfl rfl rfl rfl rfl
  have p30 : ∀ {env : Ev.Env} h, evE reprL T20 (.op2 .pow (.cst (.int 10)) (.cst (.int 30))) env h = some (.ok (.int 1000000000000000000000000000000) h) := fun h => x2 rfl rfl rfl rfl rfl
  let env0 : Ev.Env := [.val (.ref 1), .none]
  have dr : ∀ {many : Nat} {x : E}, (∀ h, evE reprL T20 x env0 h = some (.ok (.int many) h)) → 0 < many → many < 2 ^ 62 → Dw T20 100 (.call 14 [(.var 0), x]) env0 := fun ex h1 h2 => Dw.draw rfl rfl ex h1 h2 (by decide)
  have d1 := (dr (many := 13) (x := .cst (.int 13)) (fun _ => rfl) (by decide) (by decide))
  have d2 := (dr (many := 100) (x := .cst (.int 100)) (fun _ => rfl) (by decide) (by decide))
  have d3 := (dr (many := 30) (x := .cst (.int 30)) (fun _ => rfl) (by decide) (by decide))
  have d4 := (dr (many := 9) (x := .cst (.int 9)) (fun _ => rfl) (by decide) (by decide))
  have d5 := (dr (many := 1000000) p6 (by decide) (by decide))
  have d6 := (dr (many := 1000000000) p9 (by decide) (by decide))
  have s12 : Sz 1 12 → False := fun z => by unfold Sz at z; revert z; decide
  have e3 : Dw T20 102 (.op2 .mul (.cst (.int 12)) (.call 14 [(.var 0), (.cst (.int 30))])) env0 := fun h hb => by
    obtain ⟨r, h', e, hb', lt⟩ := K01.draw hb 30 (by decide) (by decide)
    refine ⟨12 * r, h', x2 rfl (xcall (xs_cons rfl (xs_cons rfl xs_nil)) e) rfl rfl (mul_of (mulOk_left (by decide))), hb', ?_⟩
    unfold Sz
    refine Nat.lt_of_lt_of_le (show (12 * (r : Int)).natAbs < 2 ^ 9 by omega) (by decide)
  have e4 : Dw T20 102 (.op2 .sub (.op2 .pow (.cst (.int 10)) (.cst (.int 6))) (.call 14 [(.var 0), (.cst (.int 9))])) env0 := fun h hb => by
    obtain ⟨r, h', e, hb', lt⟩ := K01.draw hb 9 (by decide) (by decide)
    refine ⟨1000000 - r, h', x2 (p6 h) (xcall (xs_cons rfl (xs_cons rfl xs_nil)) e) rfl rfl rfl, hb', ?_⟩
    unfold Sz
    refine Nat.lt_of_lt_of_le (show ((1000000 : Int) - (r : Int)).natAbs < 2 ^ 20 by omega) (by decide)
  have e6 : Dw T20 102 (.op2 .add (.op2 .pow (.cst (.int 10)) (.cst (.int 30))) (.call 14 [(.var 0), (.op2 .pow (.cst (.int 10)) (.cst (.int 9)))])) env0 := fun h hb => by
    obtain ⟨r, h', e, hb', lt⟩ := K01.draw hb 1000000000 (by decide) (by decide)
    refine ⟨1000000000000000000000000000000 + r, h', x2 (p30 h) (xcall (xs_cons rfl (xs_cons (p9 h) xs_nil)) e) rfl rfl rfl, hb', ?_⟩
    unfold Sz
    omega
  have up : ∀ {e : E}, Dw T20 100 e env0 → Dw T20 102 e env0 := fun d h hb => by
    obtain ⟨v, h', k, b, s⟩ := d h hb
    exact ⟨v, h', k, b, s.mono (by decide)⟩
  obtain ⟨vs, h1, k1, b1, l1, s1⟩ := Dw.all (es := [(.call 14 [(.var 0), (.cst (.int 13))]), (.call 14 [(.var 0), (.cst (.int 100))]), (.op2 .mul (.cst (.int 12)) (.call 14 [(.var 0), (.cst (.int 30))])), (.op2 .sub (.op2 .pow (.cst (.int 10)) (.cst (.int 6))) (.call 14 [(.var 0), (.cst (.int 9))])), (.call 14 [(.var 0), (.op2 .pow (.cst (.int 10)) (.cst (.int 6)))]), (.op2 .add (.op2 .pow (.cst (.int 10)) (.cst (.int 30))) (.call 14 [(.var 0), (.op2 .pow (.cst (.int 10)) (.cst (.int 9)))]))])
    (List.forall_mem_cons.mpr ⟨up d1, List.forall_mem_cons.mpr ⟨up d2, List.forall_mem_cons.mpr ⟨e3, List.forall_mem_cons.mpr ⟨e4, List.forall_mem_cons.mpr ⟨up d5, List.forall_mem_cons.mpr ⟨e6, fun e he => nomatch he⟩⟩⟩⟩⟩⟩) h hb
  have l1 : vs.length = 6 := l1
  obtain ⟨x, h2, m2, k2, b2⟩ := pick b1 (xs := vs.map D.int) (by rw [List.length_map, l1]; decide) (by rw [List.length_map, l1]; decide)
  obtain ⟨v, hv, rfl⟩ := List.mem_map.mp m2
  obtain ⟨y, h3, m3, k3, b3⟩ := pick b2 (xs := [.int 1, .int 1, .int (0 - 1)]) (by decide) (by decide)
  have hy : ∃ w : Int, y = .int w ∧ Sz 1 w := by
    simp only [List.mem_cons, List.not_mem_nil, or_false] at m3
    rcases m3 with rfl | rfl | rfl <;> exact ⟨_, rfl, by unfold Sz; decide⟩
  obtain ⟨w, rfl, sw⟩ := hy
  refine ⟨v * w, h3, fn_ret rfl (run_cons (run_asg (env' := [.val (.ref 1), .val (.int v)]) (xcall (xs_cons rfl (xs_cons (xlst k1) xs_nil)) k2) rfl) (run_ret (run_retE (x2 rfl (xcall (xs_cons rfl (xs_cons rfl xs_nil)) k3) rfl rfl (mul_sz (s1 v hv) sw (by decide)))))), b3, (s1 v hv).mul sw⟩
end K01
end

section
set_option Elab.async false
set_option linter.all false
set_option maxRecDepth 100000
namespace K01
open PySem L2 Ev Dr
/-! ### a drawn fraction; an odd value -/
/-- in lowest terms, of at most n bits -/
def Fr (n : Nat) (a b : Int) : Prop := Sz n a ∧ Sz n b ∧ 0 < b
theorem part_run {h : Ev.Heap} (hb : Box h) : ∃ (a b : Int) (h' : Ev.Heap), G21 [.ref 1] h = some (.ok (fD a b) h') ∧ Box h' ∧ Fr 104 a b := by
  obtain ⟨t, h1, k1, b1, s1⟩ := integer_run hb
  obtain ⟨v, h2, k2, b2, s2⟩ := integer_run b1
  have pos : (0 : Int) < (v.natAbs : Int) + 1 := by omega
  have su : Sz 104 ((v.natAbs : Int) + 1) := by
    unfold Sz at *
    omega
  have st : Sz 104 t := s1.mono (by decide)
  have ne : (v.natAbs : Int) + 1 ≠ 0 := by omega
  have g_eq : gs t ((v.natAbs : Int) + 1) = (Nat.gcd t.natAbs ((v.natAbs : Int) + 1).natAbs : Int) := if_neg (by omega)
  have hg := gs_ne (t := t) ne
  have hgs : (gs t ((v.natAbs : Int) + 1)).natAbs < 2 ^ 9000 := Nat.lt_of_le_of_lt (gs_small ne) (show Sz 9000 _ from su.mono (by decide))
  obtain ⟨f1, f2⟩ := fr_sz ne st su
  refine ⟨frT t ((v.natAbs : Int) + 1), frB t ((v.natAbs : Int) + 1), h2, fn_ret rfl (run_cons (run_par (xs_cons (xcall (xs_cons rfl xs_nil) k1) (xs_cons (x2 (x1 (d := .int v.natAbs) (xcall (xs_cons rfl xs_nil) k2) rfl ?_) rfl rfl rfl rfl) xs_nil)) rfl) (run_cons (run_asg (xcall (xs_cons rfl (xs_cons rfl xs_nil)) (law_div st su (by decide) h2)) rfl) (run_ret (run_retE (xtup (xs_cons (x2 rfl rfl rfl rfl ?_) (xs_cons (x2 rfl rfl rfl rfl ?_) xs_nil))))))), b2, f1, f2, frB_pos ne⟩
  · show some (D.int (if v < 0 then -v else v)) = _
    rw [abs_nat]
  · have e := fdiv_exact hg (gs_dvd t ((v.natAbs : Int) + 1)).1 hgs
    rw [g_eq] at e
    exact e.trans (by unfold frT; rw [g_eq])
  · have e := fdiv_exact hg (gs_dvd t ((v.natAbs : Int) + 1)).2 hgs
    rw [g_eq] at e
    exact e.trans (by unfold frB; rw [g_eq])
/-- what both say of a value -/
def Same (x : D) : Prop := ∀ h, ∃ u : Bool, G4 [x] h = some (.ok (.bl u) h) ∧ G18 [x] h = some (.ok (.bl u) h)
section
variable {a b c : Int} {n : Nat} {h : Ev.Heap}
theorem same_pair (ha : Sz n a) (hb : Sz n b) (hn : n ≤ 1990) : Same (fD a b) := fun h => ⟨_, fr_pair, lawfr_pair ha hb hn⟩
theorem same_flat {x : D} (p : D.plain x = true) (t : x.isTup = false) : Same x := fun h => by
  have e : ∀ {Γ : Gm} {env : Ev.Env}, evE reprL Γ (.view 0) env h = some (.ok x h) → evE reprL Γ (.op1 .not (.op1 .isTup (.view 0))) env h = some (.ok (.bl true) h) := fun k => not_e (u := false) (x1 k (flat_of p) (by rw [isTup_o p, t]))
  refine ⟨false, fn_ret rfl (run_ret (run_ifT (h' := h) ?_ (run_ret (run_retE rfl)))), fn_ret rfl (run_ret (run_ifT (h' := h) ?_ (run_ret (run_retE rfl))))⟩
  · exact or_e (u := true) (v := true) (e rfl) fun z => by cases z
  · exact or_e (u := true) (v := true) (e rfl) fun z => by cases z
theorem tup_e {Γ : Gm} {env : Ev.Env} {xs : List D} {h : Ev.Heap} (k : evE reprL Γ (.view 0) env h = some (.ok (.tup xs) h)) (p : D.plains xs = true) : evE reprL Γ (.op1 .not (.op1 .isTup (.view 0))) env h = some (.ok (.bl false) h) := not_e (u := true) (x1 k rfl (isTup_o (x := .tup xs) p))
theorem len_e {Γ : Gm} {env : Ev.Env} {xs : List D} {h : Ev.Heap} (k : evE reprL Γ (.view 0) env h = some (.ok (.tup xs) h)) : evE reprL Γ (.op2 .ne (.op1 .len (.view 0)) (.cst (.int 2))) env h = some (.ok (.bl (!((xs.length : Int) == 2))) h) := x2 (x1 k rfl rfl) rfl rfl rfl rfl
/-- of another length -/
theorem same_len {xs : List D} (p : D.plains xs = true) (l : ((xs.length : Int) == 2) = false) : Same (.tup xs) := fun h => by
  have q : ∀ {Γ : Gm} {env : Ev.Env}, evE reprL Γ (.view 0) env h = some (.ok (.tup xs) h) → evE reprL Γ (.op2 .ne (.op1 .len (.view 0)) (.cst (.int 2))) env h = some (.ok (.bl true) h) := fun k => by
    have e := len_e k
    rw [l] at e
    exact e
  refine ⟨false, fn_ret rfl (run_ret (run_ifT (h' := h) (xorF (tup_e rfl p) ?_) (run_ret (run_retE rfl)))), fn_ret rfl (run_ret (run_ifT (h' := h) (xorF (tup_e rfl p) ?_) (run_ret (run_retE rfl))))⟩
  · exact or_e (u := true) (v := true) (q rfl) fun z => by cases z
  · exact or_e (u := true) (v := true) (q rfl) fun z => by cases z
/-- two items, not both whole numbers -/
theorem same_two {x y : D} (px : D.plain x = true) (py : D.plain y = true) (n : (isI x && isI y) = false) : Same (.tup [x, y]) := fun h => by
  have pp : D.plains [x, y] = true := by
    show (D.plain x && (D.plain y && true)) = true
    rw [px, py]
    rfl
  refine ⟨false, fn_ret rfl (run_ret (run_ifT (h' := h) (xorF (tup_e rfl pp) (xorF (x2 (d := .bl false) (x1 (d := .int 2) rfl rfl rfl) rfl rfl rfl rfl) (not_e (u := false) ?_))) (run_ret (run_retE rfl)))), fn_ret rfl (run_ret (run_ifT (h' := h) (xorF (tup_e rfl pp) (xorF (x2 (d := .bl false) (x1 (d := .int 2) rfl rfl rfl) rfl rfl rfl rfl) ?_)) (run_ret (run_retE rfl))))⟩
  · have e : o1 reprL .all (.lst [.bl (isI x), .bl (isI y)]) = some (.bl false) := by
      show some (D.bl (List.all [isI x, isI y] id)) = _
      simp only [List.all_cons, List.all_nil, id, Bool.and_true, n]
    exact x1 (run_lc (s := .tup [x, y]) (xs := [x, y]) rfl rfl (comp_cons (turn_elt rfl rfl (xcall (xs_cons rfl xs_nil) (isint_run px h))) (comp_cons (turn_elt rfl rfl (xcall (xs_cons rfl xs_nil) (isint_run py h))) comp_nil))) rfl e
  · have e1 : evE reprL T18 (.op1 .not (.call 17 [(.op2 .ix (.view 0) (.cst (.int 0)))])) [.val (.tup [x, y])] h = some (.ok (.bl (!isI x)) h) := not_e (xcall (xs_cons rfl xs_nil) (iswhole_run px h))
    have e2 : evE reprL T18 (.op1 .not (.call 17 [(.op2 .ix (.view 0) (.cst (.int 1)))])) [.val (.tup [x, y])] h = some (.ok (.bl (!isI y)) h) := not_e (xcall (xs_cons rfl xs_nil) (iswhole_run py h))
    have e := or_e e1 fun _ => e2
    rw [show (!isI x || !isI y) = true by rw [← Bool.not_and, n]; rfl] at e
    exact e
theorem odd_run {n : Nat} (f : Fr n a b) (hn : n ≤ 1900) {h : Ev.Heap} (hb : Box h) : ∃ (x : D) (h' : Ev.Heap), G22 [.ref 1, fD a b] h = some (.ok x h') ∧ Box h' ∧ Same x := by
  obtain ⟨sa, sb, pb⟩ := f
  obtain ⟨r, h1, k1, b1, l1⟩ := K01.draw hb 5 (by decide) (by decide)
  obtain ⟨q, h2, k2, b2, l2⟩ := K01.draw b1 3 (by decide) (by decide)
  have sr : Sz 3 (2 + (r : Int)) := by
    unfold Sz
    omega
  have sq : Sz 3 (2 + (q : Int)) := by
    unfold Sz
    omega
  have one : ∀ {n : Nat} {i : Int}, Sz n i → Sz (n + 1) (0 - i) := fun s => by
    unfold Sz at *
    rw [Nat.pow_succ]
    omega
  have lit : ∀ {i : Int}, i.natAbs < 8 → Sz 3 i := fun h => h
  have pr : ∀ {x y : Int}, Sz (n + 3) x → Sz (n + 3) y → Same (fD x y) := fun s1 s2 => same_pair s1 s2 (by omega)
  have up : ∀ {m : Nat} {i : Int}, Sz m i → m ≤ n + 3 → Sz (n + 3) i := fun s l => s.mono l
  have two : ∀ {x y : D}, D.plain x = true → D.plain y = true → (isI x && isI y) = false → Same (.tup [x, y]) := fun a b c => same_two a b c
  let as : List D := [fD (a * (2 + r)) (b * (2 + r)), fD a (0 - b), fD a 0, .lst [.int a, .int b], .tup [.int a, .int b, .int 1], .tup [.int a], .tup [.bl true, .int 1], .tup [.int a, .non]]
  let bs : List D := [fD 0 (2 + q), fD 0 1, .tup [.int 1, .bl true], .tup [.str "1", .int 2], .non, .int 7, .tup [], .tup [fD 1 2, .int 3], .tup [.int a, .lst [.int 2]], fD (0 - a) b]
  have all : ∀ x ∈ as ++ bs, Same x := by
    intro x hx
    simp only [as, bs, List.mem_append, List.mem_cons, List.not_mem_nil, or_false] at hx
    rcases hx with (rfl | rfl | rfl | rfl | rfl | rfl | rfl | rfl) | (rfl | rfl | rfl | rfl | rfl | rfl | rfl | rfl | rfl | rfl)
    · exact pr (sa.mul sr) (sb.mul sr)
    · exact pr (up sa (by omega)) (up (one sb) (by omega))
    · exact pr (up sa (by omega)) (up (lit (by decide)) (by omega))
    · exact same_flat rfl rfl
    · exact same_len rfl rfl
    · exact same_len rfl rfl
    · exact two rfl rfl rfl
    · exact two rfl rfl rfl
    · exact pr (up (lit (by decide)) (by omega)) (up sq (by omega))
    · exact pr (up (lit (by decide)) (by omega)) (up (lit (by decide)) (by omega))
    · exact two rfl rfl rfl
    · exact two rfl rfl rfl
    · exact same_flat rfl rfl
    · exact same_flat rfl rfl
    · exact same_len rfl rfl
    · exact two rfl rfl rfl
    · exact two rfl rfl rfl
    · exact pr (up (one sa) (by omega)) (up sb (by omega))
  obtain ⟨x, h3, m3, k3, b3⟩ := pick b2 (xs := as ++ bs) (by show (0 : Nat) < 18; decide) (by show (18 : Nat) < 2 ^ 62; decide)
  refine ⟨x, h3, fn_ret rfl (run_cons (run_asg (env' := [.val (.ref 1), .val (fD a b), .val (.int (2 + r)), .none]) (x2 rfl (xcall (xs_cons rfl (xs_cons rfl xs_nil)) k1) rfl rfl rfl) rfl) (run_cons (run_asg (env' := [.val (.ref 1), .val (fD a b), .val (.int (2 + r)), .val (.lst as)]) (xlst (xs_cons (xtup (xs_cons (x2 rfl rfl rfl rfl (mul_sz sa sr (by omega))) (xs_cons (x2 rfl rfl rfl rfl (mul_sz sb sr (by omega))) xs_nil))) rfl)) rfl)
    (run_ret (run_retE (xcall (xs_cons rfl (xs_cons (x2 (d := .lst (as ++ bs)) rfl (xlst (ds := bs) (xs_cons (xtup (xs_cons rfl (xs_cons (x2 rfl (xcall (xs_cons rfl (xs_cons rfl xs_nil)) k2) rfl rfl rfl) xs_nil))) rfl)) rfl rfl rfl) xs_nil)) k3))))), b3, all x m3⟩
end
end K01
end

section
set_option Elab.async false
set_option linter.all false
set_option maxRecDepth 100000
namespace K01
open PySem L2 Ev Dr
/-! ### many fractions -/
abbrev Ps := List (Int × Int)
abbrev pD (ps : Ps) : List D := ps.map fun p => fD p.1 p.2
def Frs (n : Nat) (ps : Ps) : Prop := ∀ p ∈ ps, Fr n p.1 p.2
/-- the least common bottom -/
def cb : Ps → Int → Int
  | [], f => f
  | p :: ps, f => cb ps (f / (Nat.gcd f.natAbs p.2.natAbs : Int) * p.2)
theorem gcd_dvd_int (f b : Int) : (Nat.gcd f.natAbs b.natAbs : Int) ∣ f := Int.natAbs_dvd_natAbs.mp (by rw [Int.natAbs_natCast]; exact Nat.gcd_dvd_left _ _)
theorem gcd_dvd_int2 (f b : Int) : (Nat.gcd f.natAbs b.natAbs : Int) ∣ b := Int.natAbs_dvd_natAbs.mp (by rw [Int.natAbs_natCast]; exact Nat.gcd_dvd_right _ _)
theorem lcm_step {n k : Nat} {f b : Int} (hf : 0 < f) (sf : Sz k f) (hb : 0 < b) (sb : Sz n b) : 0 < f / (Nat.gcd f.natAbs b.natAbs : Int) * b ∧ Sz (k + n) (f / (Nat.gcd f.natAbs b.natAbs : Int) * b) ∧ Sz k (f / (Nat.gcd f.natAbs b.natAbs : Int)) ∧ f ∣ f / (Nat.gcd f.natAbs b.natAbs : Int) * b ∧ b ∣ f / (Nat.gcd f.natAbs b.natAbs : Int) * b := by
  have gp : 0 < Nat.gcd f.natAbs b.natAbs := Nat.gcd_pos_of_pos_right _ (by omega)
  have e : f / (Nat.gcd f.natAbs b.natAbs : Int) * (Nat.gcd f.natAbs b.natAbs : Int) = f := Int.ediv_mul_cancel (gcd_dvd_int f b)
  have qp : 0 < f / (Nat.gcd f.natAbs b.natAbs : Int) := by
    refine Int.lt_of_not_ge fun le => ?_
    have := Int.mul_nonpos_of_nonpos_of_nonneg le (show (0 : Int) ≤ (Nat.gcd f.natAbs b.natAbs : Int) by omega)
    omega
  have qs : Sz k (f / (Nat.gcd f.natAbs b.natAbs : Int)) := by
    have h1 : f / (Nat.gcd f.natAbs b.natAbs : Int) ≤ f := Int.ediv_le_self _ (by omega)
    unfold Sz at *
    omega
  refine ⟨Int.mul_pos qp hb, qs.mul sb, qs, ?_, Int.dvd_mul_left _ _⟩
  obtain ⟨c, hc⟩ := gcd_dvd_int2 f b
  refine ⟨c, ?_⟩
  calc f / (Nat.gcd f.natAbs b.natAbs : Int) * b = f / (Nat.gcd f.natAbs b.natAbs : Int) * ((Nat.gcd f.natAbs b.natAbs : Int) * c) := by rw [← hc]
    _ = (f / (Nat.gcd f.natAbs b.natAbs : Int) * (Nat.gcd f.natAbs b.natAbs : Int)) * c := by rw [Int.mul_assoc]
    _ = f * c := by rw [e]
theorem cb_facts {n : Nat} : ∀ {ps : Ps} {f : Int} {k : Nat}, Frs n ps → 0 < f → Sz k f → 0 < cb ps f ∧ Sz (k + n * ps.length) (cb ps f) ∧ f ∣ cb ps f ∧ ∀ p ∈ ps, p.2 ∣ cb ps f
  | [], f, k, _, hf, sf => ⟨hf, sf.mono (Nat.le_add_right _ _), Int.dvd_refl _, fun p hp => by cases hp⟩
  | p :: ps, f, k, H, hf, sf => by
    obtain ⟨_, sb, pb⟩ := H p List.mem_cons_self
    obtain ⟨s1, s2, _, s3, s4⟩ := lcm_step hf sf pb sb
    obtain ⟨t1, t2, t3, t4⟩ := cb_facts (fun q hq => H q (List.mem_cons_of_mem _ hq)) s1 s2
    refine ⟨t1, t2.mono (by rw [List.length_cons, Nat.mul_succ]; omega), Int.dvd_trans s3 t3, fun q hq => ?_⟩
    rcases List.mem_cons.mp hq with rfl | hq
    · exact Int.dvd_trans s4 t3
    · exact t4 q hq
section
variable {n : Nat} {h : Ev.Heap}
abbrev bCb : List S := [.asg (.name 1) (.op2 .mul (.op2 .fdiv (.view 1) (.call 1 [(.var 1), (.var 3)])) (.view 3))]
theorem cb_loop {s0 : Sl} : ∀ {ps : Ps} {f : Int} {k : Nat} {x y : Sl}, Frs n ps → 0 < f → Sz k f → k + n * ps.length ≤ 8000 → isOwnSl (some x) = false → isOwnSl (some y) = false →
    ∃ x' y', forLoop (forTurn T2 (.tup [.name 2, .name 3]) bCb) (pD ps) [s0, .val (.int f), x, y] h = some (.ok (.nx [s0, .val (.int (cb ps f)), x', y']) h)
  | [], f, k, x, y, _, _, _, _, _, _ => ⟨x, y, rfl⟩
  | p :: ps, f, k, x, y, H, hf, sf, len, hx, hy => by
    obtain ⟨sa, sb, pb⟩ := H p List.mem_cons_self
    obtain ⟨s1, s2, s5, _, _⟩ := lcm_step hf sf pb sb
    have len : k + (n * ps.length + n) ≤ 8000 := by
      rw [List.length_cons, Nat.mul_succ] at len
      exact len
    obtain ⟨x', y', t⟩ := cb_loop (s0 := s0) (x := .val (.int p.1)) (y := .val (.int p.2)) (fun q hq => H q (List.mem_cons_of_mem _ hq)) s1 s2 (by omega) rfl rfl
    have g0 : (Nat.gcd f.natAbs p.2.natAbs : Int) ≠ 0 := by
      have := Nat.gcd_pos_of_pos_right f.natAbs (show 0 < p.2.natAbs by omega)
      omega
    have gs9 : ((Nat.gcd f.natAbs p.2.natAbs : Int)).natAbs < 2 ^ 9000 := by
      rw [Int.natAbs_natCast]
      exact Nat.lt_of_le_of_lt (Nat.gcd_le_right _ (by omega)) (show Sz 9000 p.2 from sb.mono (by omega))
    have set : setTg (.tup [.name 2, .name 3]) (fD p.1 p.2) [s0, .val (.int f), x, y] = some [s0, .val (.int f), .val (.int p.1), .val (.int p.2)] := by
      show Option.bind (if isOwnSl (some x) = true then none else some [s0, .val (.int f), .val (.int p.1), y]) (setTgs [.name 3] [.int p.2]) = _
      rw [hx]
      show Option.bind (if isOwnSl (some y) = true then none else some [s0, .val (.int f), .val (.int p.1), .val (.int p.2)]) (setTgs [] []) = _
      rw [hy]
      rfl
    refine ⟨x', y', loop_cons (env' := [s0, .val (.int (f / (Nat.gcd f.natAbs p.2.natAbs : Int) * p.2)), .val (.int p.1), .val (.int p.2)]) ?_ t⟩
    show (match setTg (.tup [.name 2, .name 3]) (fD p.1 p.2) [s0, .val (.int f), x, y] with | some env => evSs reprL T2 bCb env h | none => none) = _
    rw [set]
    exact run_cons (run_asg (x2 (x2 rfl (xcall (xs_cons rfl (xs_cons rfl xs_nil)) (gcd_run f p.2 h)) rfl rfl (fdiv_exact g0 (gcd_dvd_int f p.2) gs9)) rfl rfl rfl (mul_sz s5 sb (by omega))) rfl) rfl
theorem one_sz : Sz 1 1 := by
  unfold Sz
  decide
theorem cb_lst {ps : Ps} (H : Frs n ps) (len : n * ps.length ≤ 7900) : G2 [.lst (pD ps)] h = some (.ok (.int (cb ps 1)) h) := by
  obtain ⟨x', y', t⟩ := cb_loop (h := h) (s0 := .val (.lst (pD ps))) (x := .none) (y := .none) H (by decide) one_sz (by omega) rfl rfl
  exact fn_ret rfl (run_cons (run_asg (env' := [.val (.lst (pD ps)), .val (.int 1), .none, .none]) rfl rfl) (run_cons (run_for (s := .lst (pD ps)) rfl rfl t) (run_ret (run_retE rfl))))
theorem cb_tup {ps : Ps} (H : Frs n ps) (len : n * ps.length ≤ 7900) : G2 [.tup (pD ps)] h = some (.ok (.int (cb ps 1)) h) := by
  obtain ⟨x', y', t⟩ := cb_loop (h := h) (s0 := .val (.tup (pD ps))) (x := .none) (y := .none) H (by decide) one_sz (by omega) rfl rfl
  exact fn_ret rfl (run_cons (run_asg (env' := [.val (.tup (pD ps)), .val (.int 1), .none, .none]) rfl rfl) (run_cons (run_for (s := .tup (pD ps)) rfl rfl t) (run_ret (run_retE rfl))))
end
end K01
end

section
set_option Elab.async false
set_option linter.all false
set_option maxRecDepth 100000
namespace K01
open PySem L2 Ev Dr
/-! ### the total -/
def sumv (ps : Ps) (d : Int) : Int := (ps.map fun p => p.1 * (d / p.2)).sum
theorem ints_map : ∀ is : List Int, ints? (is.map D.int) = some is
  | [] => rfl
  | i :: is => by
    show (ints? (is.map D.int)).map (i :: ·) = _
    rw [ints_map is]
    rfl
theorem flat_map {α : Type} (v : α → Int) : ∀ as : List α, (as.flatMap fun a => [D.int (v a)]) = (as.map v).map D.int
  | [] => rfl
  | a :: as => by
    rw [List.flatMap_cons, flat_map v as]
    rfl
section
variable {n : Nat} {h : Ev.Heap} {ps : Ps}
theorem total_comp {s0 : Sl} {d : Int} {k : Nat} (H : Frs n ps) (hn : n ≤ 8000) (hd : 0 < d) (sd : Sz k d) (hk : k ≤ 8000) : compLoop (lcTurn T10 (.op2 .mul (.view 2) (.op2 .fdiv (.view 1) (.view 3))) [] [2, 3] (.tup [.name 2, .name 3]) [s0, .val (.int d), .none, .none]) (pD ps) h = some (.ok ((ps.map fun p => p.1 * (d / p.2)).map D.int) h) := by
  rw [← flat_map]
  refine comp_map fun p hp => ?_
  obtain ⟨sa, sb, pb⟩ := H p hp
  have q : Sz k (d / p.2) := by
    have h1 : d / p.2 ≤ d := Int.ediv_le_self _ (by omega)
    have h2 : 0 ≤ d / p.2 := Int.ediv_nonneg (by omega) (by omega)
    unfold Sz at *
    omega
  have e : o2 .fdiv (.int d) (.int p.2) = some (.int (d / p.2)) := by
    have z : p.2.natAbs.log2 < 9000 := by
      have := log_sz sb
      omega
    show (if (decide (p.2 ≠ 0) && decide (p.2.natAbs.log2 < 9000)) = true then some (D.int (if 0 < p.2 then d / p.2 else d.fdiv p.2)) else none) = _
    rw [if_pos (by simp only [andI, decI]; omega), if_pos pb]
  exact turn_elt (env1 := [s0, .val (.int d), .none, .none]) (env2 := [s0, .val (.int d), .val (.int p.1), .val (.int p.2)]) rfl rfl (x2 rfl (x2 rfl rfl rfl rfl e) rfl rfl (mul_sz sa q (by omega)))
theorem total_lst (H : Frs n ps) (hn : n ≤ 7000) (len : n * ps.length ≤ 7000) : G10 [.lst (pD ps)] h = some (.ok (fD (frT (sumv ps (cb ps 1)) (cb ps 1)) (frB (sumv ps (cb ps 1)) (cb ps 1))) h) := by
  obtain ⟨c1, c2, _, _⟩ := cb_facts H (by decide) one_sz
  have ne : cb ps 1 ≠ 0 := by omega
  exact fn_ret rfl (run_cons (run_asg (env' := [.val (.lst (pD ps)), .val (.int (cb ps 1)), .none, .none]) (xcall (xs_cons rfl xs_nil) (cb_lst H (by omega))) rfl) (run_ret (run_retE (xcall (xs_cons (x1 (run_lc (s := .lst (pD ps)) (xs := pD ps) rfl rfl (total_comp H (by omega) c1 c2 (by omega))) rfl (by show (ints? _).map _ = _; rw [ints_map]; rfl)) (xs_cons rfl xs_nil)) (frac_run ne (show Sz 9000 _ from c2.mono (by omega)) h)))))
theorem total_tup (H : Frs n ps) (hn : n ≤ 7000) (len : n * ps.length ≤ 7000) : G10 [.tup (pD ps)] h = some (.ok (fD (frT (sumv ps (cb ps 1)) (cb ps 1)) (frB (sumv ps (cb ps 1)) (cb ps 1))) h) := by
  obtain ⟨c1, c2, _, _⟩ := cb_facts H (by decide) one_sz
  have ne : cb ps 1 ≠ 0 := by omega
  exact fn_ret rfl (run_cons (run_asg (env' := [.val (.tup (pD ps)), .val (.int (cb ps 1)), .none, .none]) (xcall (xs_cons rfl xs_nil) (cb_tup H (by omega))) rfl) (run_ret (run_retE (xcall (xs_cons (x1 (run_lc (s := .tup (pD ps)) (xs := pD ps) rfl rfl (total_comp H (by omega) c1 c2 (by omega))) rfl (by show (ints? _).map _ = _; rw [ints_map]; rfl)) (xs_cons rfl xs_nil)) (frac_run ne (show Sz 9000 _ from c2.mono (by omega)) h)))))
end
/-! what the law sums up itself -/
def lawT : Ps → Int → Int → Int × Int
  | [], t, b => (t, b)
  | p :: ps, t, b => lawT ps (t * p.2 + p.1 * b) (b * p.2)
def prodB : Ps → Int
  | [] => 1
  | p :: ps => p.2 * prodB ps
theorem sumv_cons {p : Int × Int} {ps : Ps} {d : Int} : sumv (p :: ps) d = p.1 * (d / p.2) + sumv ps d := by
  unfold sumv
  rw [List.map_cons, List.sum_cons]
theorem lawT_facts {d : Int} : ∀ {ps : Ps} {t b : Int}, (∀ p ∈ ps, p.2 ∣ d) → (lawT ps t b).1 * d = prodB ps * (t * d + b * sumv ps d) ∧ (lawT ps t b).2 = b * prodB ps
  | [], t, b, _ => by
    refine ⟨?_, (Int.mul_one b).symm⟩
    show t * d = 1 * (t * d + b * 0)
    rw [Int.mul_zero, Int.add_zero, Int.one_mul]
  | p :: ps, t, b, H => by
    obtain ⟨h1, h2⟩ := lawT_facts (ps := ps) (t := t * p.2 + p.1 * b) (b := b * p.2) fun q hq => H q (List.mem_cons_of_mem _ hq)
    have e : d / p.2 * p.2 = d := Int.ediv_mul_cancel (H p List.mem_cons_self)
    constructor
    · show (lawT ps (t * p.2 + p.1 * b) (b * p.2)).1 * d = p.2 * prodB ps * (t * d + b * sumv (p :: ps) d)
      rw [h1, sumv_cons]
      have k : p.1 * b * d = b * p.2 * (p.1 * (d / p.2)) := by
        calc p.1 * b * d = p.1 * b * (d / p.2 * p.2) := by rw [e]
          _ = b * p.2 * (p.1 * (d / p.2)) := by
            rw [Int.mul_comm (d / p.2) p.2, ← Int.mul_assoc, Int.mul_comm p.1 b, Int.mul_assoc b p.1 p.2, Int.mul_comm p.1 p.2, ← Int.mul_assoc b p.2 p.1, Int.mul_assoc]
      rw [Int.add_mul, k, Int.mul_add b, Int.mul_comm p.2 (prodB ps), Int.mul_assoc (prodB ps) p.2, Int.mul_add p.2, Int.mul_add p.2]
      have k2 : t * p.2 * d = p.2 * (t * d) := by rw [Int.mul_comm t p.2, Int.mul_assoc]
      have k3 : b * p.2 * (p.1 * (d / p.2)) = p.2 * (b * (p.1 * (d / p.2))) := by rw [Int.mul_comm b p.2, Int.mul_assoc]
      have k4 : b * p.2 * sumv ps d = p.2 * (b * sumv ps d) := by rw [Int.mul_comm b p.2, Int.mul_assoc]
      rw [k2, k3, k4, Int.add_assoc]
    · show (lawT ps (t * p.2 + p.1 * b) (b * p.2)).2 = b * (p.2 * prodB ps)
      rw [h2, Int.mul_assoc]
/-- two ways to say one fraction -/
theorem lequal_same {n m : Nat} {s d t b : Int} {h : Ev.Heap} (hd : d ≠ 0) (ss : Sz n s) (sd : Sz n d) (hn : n ≤ 1990) (st : Sz m t) (sb : Sz m b) (hm : m ≤ 100000) (e : t * d = b * s) : G19 [fD (frT s d) (frB s d), .int t, .int b] h = some (.ok (.bl true) h) := by
  obtain ⟨k1, k2⟩ := fr_sz hd ss sd
  have c : frT s d * b = t * frB s d := by
    refine Int.eq_of_mul_eq_mul_right hd ?_
    calc frT s d * b * d = (frT s d * d) * b := by rw [Int.mul_assoc, Int.mul_comm b d, ← Int.mul_assoc]
      _ = (s * frB s d) * b := by rw [fr_cross]
      _ = (b * s) * frB s d := by rw [Int.mul_comm (s * frB s d) b, ← Int.mul_assoc]
      _ = (t * d) * frB s d := by rw [e]
      _ = t * frB s d * d := by rw [Int.mul_assoc, Int.mul_comm d, ← Int.mul_assoc]
  rw [lequal_run k1 k2 hn st sb hm, fr_isF hd, c, beq_self_eq_true]
  rfl
end K01
end

section
set_option Elab.async false
set_option linter.all false
set_option maxRecDepth 100000
namespace K01
open PySem L2 Ev Dr
/-! ### the product -/
def prd : Ps → Int → Int → Int × Int
  | [], x, y => (x, y)
  | p :: ps, x, y => prd ps (frT (x * p.1) (y * p.2)) (frB (x * p.1) (y * p.2))
def prodA : Ps → Int
  | [] => 1
  | p :: ps => p.1 * prodA ps
section
variable {n : Nat} {h : Ev.Heap}
theorem prd_facts : ∀ {ps : Ps} {x y : Int} {k : Nat}, Frs n ps → 0 < y → isF (fD x y) = true → Sz k x → Sz k y → 0 < (prd ps x y).2 ∧ isF (fD (prd ps x y).1 (prd ps x y).2) = true ∧ Sz (k + n * ps.length) (prd ps x y).1 ∧ Sz (k + n * ps.length) (prd ps x y).2 ∧ (prd ps x y).1 * (y * prodB ps) = x * prodA ps * (prd ps x y).2
  | [], x, y, k, _, hy, hf, sx, sy => ⟨hy, hf, sx.mono (Nat.le_add_right _ _), sy.mono (Nat.le_add_right _ _), by show x * (y * 1) = x * 1 * y; rw [Int.mul_one, Int.mul_one]⟩
  | p :: ps, x, y, k, H, hy, hf, sx, sy => by
    obtain ⟨sa, sb, pb⟩ := H p List.mem_cons_self
    have ne : y * p.2 ≠ 0 := Int.mul_ne_zero (by omega) (by omega)
    obtain ⟨f1, f2⟩ := fr_sz ne (sx.mul sa) (sy.mul sb)
    obtain ⟨t1, t2, t3, t4, t5⟩ := prd_facts (ps := ps) (fun q hq => H q (List.mem_cons_of_mem _ hq)) (frB_pos ne) (fr_isF ne) f1 f2
    have le : k + n + n * ps.length ≤ k + n * (p :: ps).length := by
      rw [List.length_cons, Nat.mul_succ]
      omega
    refine ⟨t1, t2, t3.mono le, t4.mono le, ?_⟩
    have h1 := frT_mul (t := x * p.1) (b := y * p.2)
    have h2 := frB_mul (t := x * p.1) (b := y * p.2)
    show (prd ps (frT (x * p.1) (y * p.2)) (frB (x * p.1) (y * p.2))).1 * (y * (p.2 * prodB ps)) = x * (p.1 * prodA ps) * (prd ps (frT (x * p.1) (y * p.2)) (frB (x * p.1) (y * p.2))).2
    revert t5 h1 h2
    generalize frT (x * p.1) (y * p.2) = u
    generalize frB (x * p.1) (y * p.2) = v
    generalize gs (x * p.1) (y * p.2) = g
    generalize (prd ps u v).1 = X
    generalize (prd ps u v).2 = Y
    intro t5 h1 h2
    calc X * (y * (p.2 * prodB ps)) = X * ((y * p.2) * prodB ps) := by rw [Int.mul_assoc]
      _ = X * ((v * g) * prodB ps) := by rw [h2]
      _ = g * (X * (v * prodB ps)) := by rw [Int.mul_comm v g, Int.mul_assoc, ← Int.mul_assoc X g, Int.mul_comm X g, Int.mul_assoc]
      _ = g * (u * prodA ps * Y) := by rw [t5]
      _ = (u * g) * prodA ps * Y := by rw [Int.mul_comm u g, Int.mul_assoc g u, Int.mul_assoc g]
      _ = (x * p.1) * prodA ps * Y := by rw [h1]
      _ = x * (p.1 * prodA ps) * Y := by rw [Int.mul_assoc x]
abbrev bPr : List S := [.asg (.name 1) (.call 7 [(.var 1), (.var 2)])]
theorem prd_loop {s0 : Sl} : ∀ {ps : Ps} {x y : Int} {k : Nat} {z : Sl}, Frs n ps → 0 < y → Sz k x → Sz k y → k + n * ps.length ≤ 4000 → isOwnSl (some z) = false → ∃ z', forLoop (forTurn T11 (.name 2) bPr) (pD ps) [s0, .val (fD x y), z] h = some (.ok (.nx [s0, .val (fD (prd ps x y).1 (prd ps x y).2), z']) h)
  | [], x, y, k, z, _, _, _, _, _, _ => ⟨z, rfl⟩
  | p :: ps, x, y, k, z, H, hy, sx, sy, len, hz => by
    obtain ⟨sa, sb, pb⟩ := H p List.mem_cons_self
    have len : k + (n * ps.length + n) ≤ 4000 := by
      rw [List.length_cons, Nat.mul_succ] at len
      exact len
    have ne : y * p.2 ≠ 0 := Int.mul_ne_zero (by omega) (by omega)
    obtain ⟨f1, f2⟩ := fr_sz ne (sx.mul sa) (sy.mul sb)
    obtain ⟨z', t⟩ := prd_loop (s0 := s0) (z := .val (fD p.1 p.2)) (fun q hq => H q (List.mem_cons_of_mem _ hq)) (frB_pos ne) f1 f2 (by omega) rfl
    refine ⟨z', loop_cons (env' := [s0, .val (fD (frT (x * p.1) (y * p.2)) (frB (x * p.1) (y * p.2))), .val (fD p.1 p.2)]) ?_ t⟩
    have set : setTg (.name 2) (fD p.1 p.2) [s0, .val (fD x y), z] = some [s0, .val (fD x y), .val (fD p.1 p.2)] := by
      show (if isOwnSl (some z) = true then none else _) = _
      rw [hz]
      rfl
    show (match setTg (.name 2) (fD p.1 p.2) [s0, .val (fD x y), z] with | some env => evSs reprL T11 bPr env h | none => none) = _
    rw [set]
    exact run_cons (run_asg (xcall (xs_cons rfl (xs_cons rfl xs_nil)) (timed_run (n := k + n) (sx.mono (by omega)) (sy.mono (by omega)) (sa.mono (by omega)) (sb.mono (by omega)) (by omega) ne)) rfl) rfl
theorem prd_tup {ps : Ps} (H : Frs n ps) (len : n * ps.length ≤ 3900) : G11 [.tup (pD ps)] h = some (.ok (fD (prd ps 1 1).1 (prd ps 1 1).2) h) := by
  obtain ⟨z', t⟩ := prd_loop (h := h) (s0 := .val (.tup (pD ps))) (z := .none) H (by decide) one_sz one_sz (by omega) rfl
  exact fn_ret rfl (run_cons (run_asg (env' := [.val (.tup (pD ps)), .val (fD 1 1), .none]) rfl rfl) (run_cons (run_for (s := .tup (pD ps)) rfl rfl t) (run_ret (run_retE rfl))))
theorem prd_lst {ps : Ps} (H : Frs n ps) (len : n * ps.length ≤ 3900) : G11 [.lst (pD ps)] h = some (.ok (fD (prd ps 1 1).1 (prd ps 1 1).2) h) := by
  obtain ⟨z', t⟩ := prd_loop (h := h) (s0 := .val (.lst (pD ps))) (z := .none) H (by decide) one_sz one_sz (by omega) rfl
  exact fn_ret rfl (run_cons (run_asg (env' := [.val (.lst (pD ps)), .val (fD 1 1), .none]) rfl rfl) (run_cons (run_for (s := .lst (pD ps)) rfl rfl t) (run_ret (run_retE rfl))))
end
end K01
end

section
set_option Elab.async false
set_option linter.all false
set_option maxRecDepth 100000
namespace K01
open PySem L2 Ev Dr
/-! ### one fraction has one form -/
theorem isF_inv {p q : Int} (h : isF (fD p q) = true) : 0 < q ∧ Nat.gcd p.natAbs q.natAbs = 1 := by
  have h : (decide (0 < q) && (Nat.gcd p.natAbs q.natAbs == 1)) = true := h
  rw [Bool.and_eq_true, decide_eq_true_eq, beq_iff_eq] at h
  exact h
theorem half {p q p' q' : Int} (g : Nat.gcd p.natAbs q.natAbs = 1) (e : p * q' = p' * q) : q.natAbs ∣ q'.natAbs := by
  have d : q.natAbs ∣ p.natAbs * q'.natAbs := by
    rw [← Int.natAbs_mul, e, Int.natAbs_mul]
    exact Nat.dvd_mul_left _ _
  exact Nat.Coprime.dvd_of_dvd_mul_left (show Nat.Coprime q.natAbs p.natAbs by unfold Nat.Coprime; rw [Nat.gcd_comm]; exact g) d
theorem fr_uniq {p q p' q' : Int} (f : isF (fD p q) = true) (f' : isF (fD p' q') = true) (e : p * q' = p' * q) : p = p' ∧ q = q' := by
  obtain ⟨h1, h2⟩ := isF_inv f
  obtain ⟨k1, k2⟩ := isF_inv f'
  have d1 := half h2 e
  have d2 := half k2 e.symm
  have eq : q = q' := by
    have := Nat.dvd_antisymm d1 d2
    omega
  refine ⟨?_, eq⟩
  rw [eq] at e
  exact Int.eq_of_mul_eq_mul_right (by omega) e
/-- both say t / b -/
theorem fr_same {p q p' q' t b : Int} (f : isF (fD p q) = true) (f' : isF (fD p' q') = true) (hb : b ≠ 0) (e : p * b = t * q) (e' : p' * b = t * q') : p = p' ∧ q = q' := by
  refine fr_uniq f f' (Int.eq_of_mul_eq_mul_right hb ?_)
  calc p * q' * b = (p * b) * q' := by rw [Int.mul_assoc, Int.mul_comm q' b, ← Int.mul_assoc]
    _ = (t * q) * q' := by rw [e]
    _ = (t * q') * q := by rw [Int.mul_assoc, Int.mul_comm q q', ← Int.mul_assoc]
    _ = (p' * b) * q := by rw [e']
    _ = p' * q * b := by rw [Int.mul_assoc, Int.mul_comm b q, ← Int.mul_assoc]
theorem sumv_perm {ps qs : Ps} (h : ps.Perm qs) (d : Int) : sumv ps d = sumv qs d := by
  induction h with
  | nil => rfl
  | cons x _ ih => rw [sumv_cons, sumv_cons, ih]
  | swap x y l =>
    rw [sumv_cons, sumv_cons, sumv_cons, sumv_cons]
    omega
  | trans _ _ ih1 ih2 => rw [ih1, ih2]
theorem prodB_perm {ps qs : Ps} (h : ps.Perm qs) : prodB ps = prodB qs := by
  induction h with
  | nil => rfl
  | cons x _ ih =>
    show x.2 * _ = x.2 * _
    rw [ih]
  | swap x y l =>
    show y.2 * (x.2 * prodB l) = x.2 * (y.2 * prodB l)
    rw [← Int.mul_assoc, Int.mul_comm y.2, Int.mul_assoc]
  | trans _ _ ih1 ih2 => rw [ih1, ih2]
theorem prodA_perm {ps qs : Ps} (h : ps.Perm qs) : prodA ps = prodA qs := by
  induction h with
  | nil => rfl
  | cons x _ ih =>
    show x.1 * _ = x.1 * _
    rw [ih]
  | swap x y l =>
    show y.1 * (x.1 * prodA l) = x.1 * (y.1 * prodA l)
    rw [← Int.mul_assoc, Int.mul_comm y.1, Int.mul_assoc]
  | trans _ _ ih1 ih2 => rw [ih1, ih2]
theorem prodB_pos {n : Nat} : ∀ {ps : Ps}, Frs n ps → 0 < prodB ps
  | [], _ => by decide
  | p :: ps, H => Int.mul_pos (H p List.mem_cons_self).2.2 (prodB_pos fun q hq => H q (List.mem_cons_of_mem _ hq))
/-- the total, whatever the order -/
theorem total_perm {n : Nat} {ps qs : Ps} (h : ps.Perm qs) (H : Frs n ps) : frT (sumv ps (cb ps 1)) (cb ps 1) = frT (sumv qs (cb qs 1)) (cb qs 1) ∧ frB (sumv ps (cb ps 1)) (cb ps 1) = frB (sumv qs (cb qs 1)) (cb qs 1) := by
  have H' : Frs n qs := fun p hp => H p (h.mem_iff.mpr hp)
  obtain ⟨c1, _, _, c4⟩ := cb_facts H (by decide) one_sz
  obtain ⟨k1, _, _, k4⟩ := cb_facts H' (by decide) one_sz
  have n1 : cb ps 1 ≠ 0 := by omega
  have n2 : cb qs 1 ≠ 0 := by omega
  have pos := prodB_pos H
  -- both say the law's own sum over the product of the bottoms
  have one : ∀ {d : Int} {rs : Ps}, rs.Perm ps → d ≠ 0 → (∀ p ∈ ps, p.2 ∣ d) → frT (sumv rs d) d * prodB ps = (lawT ps 0 1).1 * frB (sumv rs d) d := fun {d rs} hr hd dv => by
    have e := (lawT_facts (t := 0) (b := 1) dv).1
    rw [Int.zero_mul, Int.zero_add, Int.one_mul] at e
    rw [sumv_perm hr]
    refine Int.eq_of_mul_eq_mul_right hd ?_
    calc frT (sumv ps d) d * prodB ps * d = (frT (sumv ps d) d * d) * prodB ps := by rw [Int.mul_assoc, Int.mul_comm (prodB ps) d, ← Int.mul_assoc]
      _ = (sumv ps d * frB (sumv ps d) d) * prodB ps := by rw [fr_cross]
      _ = (prodB ps * sumv ps d) * frB (sumv ps d) d := by rw [Int.mul_comm (sumv ps d * frB (sumv ps d) d), ← Int.mul_assoc]
      _ = ((lawT ps 0 1).1 * d) * frB (sumv ps d) d := by rw [e]
      _ = (lawT ps 0 1).1 * frB (sumv ps d) d * d := by rw [Int.mul_assoc, Int.mul_comm d, ← Int.mul_assoc]
  exact fr_same (fr_isF n1) (fr_isF n2) (show prodB ps ≠ 0 by omega) (one (.refl _) n1 c4) (one h.symm n2 fun p hp => k4 p (h.mem_iff.mp hp))
/-- the product, whatever the order -/
theorem prd_perm {n : Nat} {ps qs : Ps} (h : ps.Perm qs) (H : Frs n ps) : (prd ps 1 1).1 = (prd qs 1 1).1 ∧ (prd ps 1 1).2 = (prd qs 1 1).2 := by
  have H' : Frs n qs := fun p hp => H p (h.mem_iff.mpr hp)
  obtain ⟨_, a2, _, _, a5⟩ := prd_facts H (by decide) (by decide) one_sz one_sz
  obtain ⟨_, b2, _, _, b5⟩ := prd_facts H' (by decide) (by decide) one_sz one_sz
  have pos := prodB_pos H
  rw [Int.one_mul, Int.one_mul] at a5 b5
  rw [← prodB_perm h, ← prodA_perm h] at b5
  exact fr_same a2 b2 (show prodB ps ≠ 0 by omega) a5 b5
end K01
end

section
set_option Elab.async false
set_option linter.all false
set_option maxRecDepth 100000
namespace K01
open PySem L2 Ev Dr
/-! ### scaled to one -/
theorem sumv_sz {n k : Nat} {d : Int} (hd : 0 < d) (sd : Sz k d) : ∀ {ps : Ps}, Frs n ps → Sz (n + k + ps.length) (sumv ps d)
  | [], _ => by
    show (0 : Int).natAbs < _
    exact Nat.pow_pos (by decide)
  | p :: ps, H => by
    obtain ⟨sa, _, pb⟩ := H p List.mem_cons_self
    have q : Sz k (d / p.2) := by
      have h1 : d / p.2 ≤ d := Int.ediv_le_self _ (by omega)
      have h2 : 0 ≤ d / p.2 := Int.ediv_nonneg (by omega) (by omega)
      unfold Sz at *
      omega
    rw [sumv_cons]
    exact ((sa.mul q).mono (show n + k ≤ n + k + ps.length by omega)).add (sumv_sz hd sd fun q hq => H q (List.mem_cons_of_mem _ hq))
/-- the total of a list -/
abbrev tT (ps : Ps) : Int := frT (sumv ps (cb ps 1)) (cb ps 1)
abbrev tB (ps : Ps) : Int := frB (sumv ps (cb ps 1)) (cb ps 1)
theorem tot_facts {n : Nat} {ps : Ps} (H : Frs n ps) : 0 < tB ps ∧ isF (fD (tT ps) (tB ps)) = true ∧ Sz (n + (1 + n * ps.length) + ps.length) (tT ps) ∧ Sz (n + (1 + n * ps.length) + ps.length) (tB ps) := by
  obtain ⟨c1, c2, _, _⟩ := cb_facts H (by decide) one_sz
  have ne : cb ps 1 ≠ 0 := by omega
  obtain ⟨k1, k2⟩ := fr_sz ne (sumv_sz c1 c2 H) (c2.mono (show 1 + n * ps.length ≤ n + (1 + n * ps.length) + ps.length by omega))
  exact ⟨frB_pos ne, fr_isF ne, k1, k2⟩
theorem zero_form {p q : Int} (f : isF (fD p q) = true) (z : p = 0) : q = 1 := by
  obtain ⟨h1, h2⟩ := isF_inv f
  rw [z] at h2
  have : Nat.gcd 0 q.natAbs = 1 := h2
  rw [Nat.gcd_zero_left] at this
  omega
/-- one scaled part -/
abbrev scD (ps : Ps) : Ps → List D := fun qs => qs.map fun p => fD (frT (p.1 * tB ps) (p.2 * tT ps)) (frB (p.1 * tB ps) (p.2 * tT ps))
section
variable {n : Nat} {h : Ev.Heap} {ps : Ps}
theorem eq_zero {p q : Int} : o2 .eq (fD p q) (.tup [.int 0, .int 1]) = some (.bl (p == 0 && (q == 1 && true))) := rfl
theorem scaled_bad {s : D} (H : Frs n ps) (z : tT ps = 0) (tot : ∀ h, G10 [s] h = some (.ok (fD (tT ps) (tB ps)) h)) : G12 [s] h = some (.err 1 ["word"] [.str "barred"] h) := by
  have one := zero_form (tot_facts H).2.1 z
  refine fn_exc (env := [.val s, .val (fD (tT ps) (tB ps)), .none]) rfl (run_cons (run_asg (xcall (xs_cons rfl xs_nil) (tot h)) rfl) (run_exc (run_ifT ?_ (run_exc rfl))))
  refine x2 (x := fD (tT ps) (tB ps)) (y := .tup [.int 0, .int 1]) rfl rfl rfl rfl ?_
  rw [eq_zero, z, one]
  rfl
theorem scaled_ok {s : D} (H : Frs n ps) (z : tT ps ≠ 0) (w : walk? s = some (pD ps)) (len : n + (1 + n * ps.length) + ps.length ≤ 4000) (tot : ∀ h, G10 [s] h = some (.ok (fD (tT ps) (tB ps)) h)) : G12 [s] h = some (.ok (.tup (scD ps ps)) h) := by
  obtain ⟨t1, t2, t3, t4⟩ := tot_facts H
  have loop : compLoop (lcTurn T12 (.call 8 [.var 2, .var 1]) [] [2] (.name 2) [.val s, .val (fD (tT ps) (tB ps)), .none]) (pD ps) h = some (.ok (scD ps ps) h) := by
    have e : scD ps ps = ps.flatMap fun p => [fD (frT (p.1 * tB ps) (p.2 * tT ps)) (frB (p.1 * tB ps) (p.2 * tT ps))] := by
      show List.map _ ps = _
      exact List.map_eq_flatMap
    rw [e]
    refine comp_map fun p hp => ?_
    obtain ⟨sa, sb, pb⟩ := H p hp
    exact turn_elt (env1 := [.val s, .val (fD (tT ps) (tB ps)), .none]) (env2 := [.val s, .val (fD (tT ps) (tB ps)), .val (fD p.1 p.2)]) rfl rfl (xcall (xs_cons rfl (xs_cons rfl xs_nil)) (divided_run (sa.mono (by omega)) (sb.mono (by omega)) t3 t4 len (Int.mul_ne_zero (by omega) z)))
  refine fn_ret rfl (run_cons (run_asg (env' := [.val s, .val (fD (tT ps) (tB ps)), .none]) (xcall (xs_cons rfl xs_nil) (tot h)) rfl) (skipI ?_ (run_ret (run_retE (x1 (run_lc rfl w loop) rfl rfl)))))
  refine x2 (x := fD (tT ps) (tB ps)) (y := .tup [.int 0, .int 1]) rfl rfl rfl rfl ?_
  rw [eq_zero, show (tT ps == 0) = false from beq_eq_false_iff_ne.mpr z]
  rfl
end
end K01
end

section
set_option Elab.async false
set_option linter.all false
set_option maxRecDepth 100000
namespace K01
open PySem L2 Ev Dr
/-! ### the loops of _law_several_right -/
abbrev bLw : List S := [.par [(false, 4), (false, 5)] [(.op2 .add (.op2 .mul (.view 4) (.op2 .ix (.view 2) (.cst (.int 1)))) (.op2 .mul (.op2 .ix (.view 2) (.cst (.int 0))) (.view 5))), (.op2 .mul (.view 5) (.op2 .ix (.view 2) (.cst (.int 1))))], .par [(false, 6), (false, 7)] [(.op2 .mul (.view 6) (.op2 .ix (.view 2) (.cst (.int 0)))), (.op2 .mul (.view 7) (.op2 .ix (.view 2) (.cst (.int 1))))]]
abbrev env8 (s0 s1 x s3 : Sl) (t b u v : Int) (r : Ev.Env) : Ev.Env := s0 :: s1 :: x :: s3 :: .val (.int t) :: .val (.int b) :: .val (.int u) :: .val (.int v) :: r
section
variable {n : Nat} {h : Ev.Heap} {s0 s1 s3 : Sl} {r : Ev.Env}
theorem lw_loop : ∀ {ps : Ps} {t b u v : Int} {k : Nat} {x : Sl}, Frs n ps → Sz k t → Sz k b → Sz k u → Sz k v → k + (n + 1) * ps.length ≤ 100000 → isOwnSl (some x) = false →
    ∃ x', forLoop (forTurn T25 (.name 2) bLw) (pD ps) (env8 s0 s1 x s3 t b u v r) h = some (.ok (.nx (env8 s0 s1 x' s3 (lawT ps t b).1 (lawT ps t b).2 (u * prodA ps) (v * prodB ps) r)) h) ∧ isOwnSl (some x') = false ∧ Sz (k + (n + 1) * ps.length) (lawT ps t b).1 ∧ Sz (k + (n + 1) * ps.length) (lawT ps t b).2 ∧ Sz (k + (n + 1) * ps.length) (u * prodA ps) ∧ Sz (k + (n + 1) * ps.length) (v * prodB ps)
  | [], t, b, u, v, k, x, _, st, sb, su, sv, _, hx => by
    refine ⟨x, ?_, hx, st, sb, ?_, ?_⟩
    · show forLoop _ [] _ h = some (.ok (.nx (env8 s0 s1 x s3 t b (u * 1) (v * 1) r)) h)
      rw [Int.mul_one, Int.mul_one]
      rfl
    · show Sz _ (u * 1)
      rw [Int.mul_one]
      exact su
    · show Sz _ (v * 1)
      rw [Int.mul_one]
      exact sv
  | p :: ps, t, b, u, v, k, x, H, st, sb, su, sv, len, hx => by
    obtain ⟨pa, pb, _⟩ := H p List.mem_cons_self
    have e : k + (n + 1) + (n + 1) * ps.length = k + (n + 1) * (p :: ps).length := by
      rw [List.length_cons, Nat.mul_succ]
      omega
    have kn : k + n ≤ 99999 := by omega
    obtain ⟨x', l, hx', z1, z2, z3, z4⟩ := lw_loop (t := t * p.2 + p.1 * b) (b := b * p.2) (u := u * p.1) (v := v * p.2) (k := k + (n + 1)) (x := .val (fD p.1 p.2)) (fun q hq => H q (List.mem_cons_of_mem _ hq)) ((st.mul pb).add ((pa.mul sb).mono (by omega))) ((sb.mul pb).mono (by omega)) ((su.mul pa).mono (by omega)) ((sv.mul pb).mono (by omega)) (by omega) rfl
    rw [e] at z1 z2 z3 z4
    have r1 : u * prodA (p :: ps) = u * p.1 * prodA ps := by
      show u * (p.1 * prodA ps) = _
      rw [Int.mul_assoc]
    have r2 : v * prodB (p :: ps) = v * p.2 * prodB ps := by
      show v * (p.2 * prodB ps) = _
      rw [Int.mul_assoc]
    rw [r1, r2]
    refine ⟨x', loop_cons (env' := env8 s0 s1 (.val (fD p.1 p.2)) s3 (t * p.2 + p.1 * b) (b * p.2) (u * p.1) (v * p.2) r) ?_ l, hx', z1, z2, z3, z4⟩
    have set : setTg (.name 2) (fD p.1 p.2) (env8 s0 s1 x s3 t b u v r) = some (env8 s0 s1 (.val (fD p.1 p.2)) s3 t b u v r) := by
      show (if isOwnSl (some x) = true then none else some _) = _
      rw [hx]
      rfl
    show (match setTg (.name 2) (fD p.1 p.2) (env8 s0 s1 x s3 t b u v r) with | some env => evSs reprL T25 bLw env h | none => none) = _
    rw [set]
    refine run_cons (run_par (ds := [.int (t * p.2 + p.1 * b), .int (b * p.2)]) (env' := env8 s0 s1 (.val (fD p.1 p.2)) s3 (t * p.2 + p.1 * b) (b * p.2) u v r) (xs_cons (x2 (x2 rfl rfl rfl rfl (mul_sz st pb (by omega))) (x2 rfl rfl rfl rfl (mul_sz pa sb (by omega))) rfl rfl rfl) (xs_cons (x2 rfl rfl rfl rfl (mul_sz sb pb (by omega))) xs_nil)) rfl) ?_
    exact run_cons (run_par (ds := [.int (u * p.1), .int (v * p.2)]) (xs_cons (x2 rfl rfl rfl rfl (mul_sz su pa (by omega))) (xs_cons (x2 rfl rfl rfl rfl (mul_sz sv pb (by omega))) xs_nil)) rfl) run_nil
end
end K01
end

section
set_option Elab.async false
set_option linter.all false
set_option maxRecDepth 100000
namespace K01
open PySem L2 Ev Dr
/-! ### the law's common bottom; the weights' total -/
abbrev bCm : List S := [.asg (.name 9) (.op2 .mul (.op2 .fdiv (.view 9) (.call 16 [(.var 9), (.op2 .ix (.view 2) (.cst (.int 1)))])) (.op2 .ix (.view 2) (.cst (.int 1))))]
abbrev env10 (s0 s1 x s3 s4 s5 s6 s7 s8 : Sl) (f : Int) (r : Ev.Env) : Ev.Env := s0 :: s1 :: x :: s3 :: s4 :: s5 :: s6 :: s7 :: s8 :: .val (.int f) :: r
section
variable {n : Nat} {h : Ev.Heap} {s0 s1 s3 s4 s5 s6 s7 s8 : Sl} {r : Ev.Env}
theorem cm_loop : ∀ {ps : Ps} {f : Int} {k : Nat} {x : Sl}, Frs n ps → 0 < f → Sz k f → k + n * ps.length ≤ 3900 → isOwnSl (some x) = false →
    ∃ x', forLoop (forTurn T25 (.name 2) bCm) (pD ps) (env10 s0 s1 x s3 s4 s5 s6 s7 s8 f r) h = some (.ok (.nx (env10 s0 s1 x' s3 s4 s5 s6 s7 s8 (cb ps f) r)) h) ∧ isOwnSl (some x') = false
  | [], f, k, x, _, _, _, _, hx => ⟨x, rfl, hx⟩
  | p :: ps, f, k, x, H, hf, sf, len, hx => by
    obtain ⟨sa, sb, pb⟩ := H p List.mem_cons_self
    obtain ⟨s1', s2', s5', _, _⟩ := lcm_step hf sf pb sb
    have len : k + (n * ps.length + n) ≤ 3900 := by
      rw [List.length_cons, Nat.mul_succ] at len
      exact len
    obtain ⟨x', t, hx'⟩ := cm_loop (x := .val (fD p.1 p.2)) (fun q hq => H q (List.mem_cons_of_mem _ hq)) s1' s2' (by omega) rfl
    have g0 : (Nat.gcd f.natAbs p.2.natAbs : Int) ≠ 0 := by
      have := Nat.gcd_pos_of_pos_right f.natAbs (show 0 < p.2.natAbs by omega)
      omega
    have gs9 : ((Nat.gcd f.natAbs p.2.natAbs : Int)).natAbs < 2 ^ 9000 := by
      rw [Int.natAbs_natCast]
      exact Nat.lt_of_le_of_lt (Nat.gcd_le_right _ (by omega)) (show Sz 9000 p.2 from sb.mono (by omega))
    have set : setTg (.name 2) (fD p.1 p.2) (env10 s0 s1 x s3 s4 s5 s6 s7 s8 f r) = some (env10 s0 s1 (.val (fD p.1 p.2)) s3 s4 s5 s6 s7 s8 f r) := by
      show (if isOwnSl (some x) = true then none else some _) = _
      rw [hx]
      rfl
    refine ⟨x', loop_cons (env' := env10 s0 s1 (.val (fD p.1 p.2)) s3 s4 s5 s6 s7 s8 (f / (Nat.gcd f.natAbs p.2.natAbs : Int) * p.2) r) ?_ t, hx'⟩
    show (match setTg (.name 2) (fD p.1 p.2) (env10 s0 s1 x s3 s4 s5 s6 s7 s8 f r) with | some env => evSs reprL T25 bCm env h | none => none) = _
    rw [set]
    exact run_cons (run_asg (x2 (x2 rfl (xcall (xs_cons rfl (xs_cons (x2 rfl rfl rfl rfl rfl) xs_nil)) (law_div sf sb (by omega) h)) rfl rfl (fdiv_exact g0 (gcd_dvd_int f p.2) gs9)) (x2 rfl rfl rfl rfl rfl) rfl rfl (mul_sz s5' sb (by omega))) rfl) rfl
end
abbrev bWt : List S := [.par [(false, 11), (false, 12)] [(.op2 .add (.op2 .mul (.view 11) (.op2 .ix (.view 2) (.cst (.int 1)))) (.op2 .mul (.op2 .ix (.view 2) (.cst (.int 0))) (.view 12))), (.op2 .mul (.view 12) (.op2 .ix (.view 2) (.cst (.int 1))))]]
abbrev env13 (s0 s1 x s3 s4 s5 s6 s7 s8 s9 s10 : Sl) (t b : Int) (r : Ev.Env) : Ev.Env := s0 :: s1 :: x :: s3 :: s4 :: s5 :: s6 :: s7 :: s8 :: s9 :: s10 :: .val (.int t) :: .val (.int b) :: r
section
variable {n : Nat} {h : Ev.Heap} {s0 s1 s3 s4 s5 s6 s7 s8 s9 s10 : Sl} {r : Ev.Env}
theorem wt_loop : ∀ {ps : Ps} {t b : Int} {k : Nat} {x : Sl}, Frs n ps → Sz k t → Sz k b → k + (n + 1) * ps.length ≤ 100000 → isOwnSl (some x) = false →
    ∃ x', forLoop (forTurn T25 (.name 2) bWt) (pD ps) (env13 s0 s1 x s3 s4 s5 s6 s7 s8 s9 s10 t b r) h = some (.ok (.nx (env13 s0 s1 x' s3 s4 s5 s6 s7 s8 s9 s10 (lawT ps t b).1 (lawT ps t b).2 r)) h) ∧ isOwnSl (some x') = false ∧ Sz (k + (n + 1) * ps.length) (lawT ps t b).1 ∧ Sz (k + (n + 1) * ps.length) (lawT ps t b).2
  | [], t, b, k, x, _, st, sb, _, hx => ⟨x, rfl, hx, st, sb⟩
  | p :: ps, t, b, k, x, H, st, sb, len, hx => by
    obtain ⟨pa, pb, _⟩ := H p List.mem_cons_self
    have e : k + (n + 1) + (n + 1) * ps.length = k + (n + 1) * (p :: ps).length := by
      rw [List.length_cons, Nat.mul_succ]
      omega
    have kn : k + n ≤ 99999 := by omega
    obtain ⟨x', l, hx', z1, z2⟩ := wt_loop (t := t * p.2 + p.1 * b) (b := b * p.2) (k := k + (n + 1)) (x := .val (fD p.1 p.2)) (fun q hq => H q (List.mem_cons_of_mem _ hq)) ((st.mul pb).add ((pa.mul sb).mono (by omega))) ((sb.mul pb).mono (by omega)) (by omega) rfl
    rw [e] at z1 z2
    refine ⟨x', loop_cons (env' := env13 s0 s1 (.val (fD p.1 p.2)) s3 s4 s5 s6 s7 s8 s9 s10 (t * p.2 + p.1 * b) (b * p.2) r) ?_ l, hx', z1, z2⟩
    have set : setTg (.name 2) (fD p.1 p.2) (env13 s0 s1 x s3 s4 s5 s6 s7 s8 s9 s10 t b r) = some (env13 s0 s1 (.val (fD p.1 p.2)) s3 s4 s5 s6 s7 s8 s9 s10 t b r) := by
      show (if isOwnSl (some x) = true then none else some _) = _
      rw [hx]
      rfl
    show (match setTg (.name 2) (fD p.1 p.2) (env13 s0 s1 x s3 s4 s5 s6 s7 s8 s9 s10 t b r) with | some env => evSs reprL T25 bWt env h | none => none) = _
    rw [set]
    exact run_cons (run_par (ds := [.int (t * p.2 + p.1 * b), .int (b * p.2)]) (xs_cons (x2 (x2 rfl rfl rfl rfl (mul_sz st pb (by omega))) (x2 rfl rfl rfl rfl (mul_sz pa sb (by omega))) rfl rfl rfl) (xs_cons (x2 rfl rfl rfl rfl (mul_sz sb pb (by omega))) xs_nil)) rfl) run_nil
end
end K01
end

section
set_option Elab.async false
set_option linter.all false
set_option maxRecDepth 100000
namespace K01
open PySem L2 Ev Dr
/-! ### the weights -/
theorem iteT {Γ : Gm} {env : Ev.Env} {h h1 : Ev.Heap} {t a b : E} {r : R D} (e : evE reprL Γ t env h = some (.ok (.bl true) h1)) (k : evE reprL Γ a env h1 = r) : evE reprL Γ (.ite t a b) env h = r := by
  show R.bind (evE reprL Γ t env h) _ = _
  rw [e]
  exact k
theorem iteF {Γ : Gm} {env : Ev.Env} {h h1 : Ev.Heap} {t a b : E} {r : R D} (e : evE reprL Γ t env h = some (.ok (.bl false) h1)) (k : evE reprL Γ b env h1 = r) : evE reprL Γ (.ite t a b) env h = r := by
  show R.bind (evE reprL Γ t env h) _ = _
  rw [e]
  exact k
abbrev eWe : E := .ite (.op2 .gt (.call 14 [(.var 0), (.cst (.int 4))]) (.cst (.int 0))) (.tup [(.op1 .abs (.op2 .ix (.view 2) (.cst (.int 0)))), (.op2 .ix (.view 2) (.cst (.int 1)))]) (.tup [(.cst (.int 0)), (.cst (.int 1))])
theorem one_le {n : Nat} (hn : 1 ≤ n) : Sz n 1 := one_sz.mono hn
section
variable {n : Nat} {s1 s3 x : Sl} {r : Ev.Env}
theorem we_comp (hn : 1 ≤ n) (hx : isOwnSl (some x) = false) : ∀ {ps : Ps}, Frs n ps → ∀ h, Box h → ∃ (ws : Ps) (h' : Ev.Heap), compLoop (lcTurn T25 eWe [] [2] (.name 2) (.val (.ref 1) :: s1 :: x :: r)) (pD ps) h = some (.ok (pD ws) h') ∧ Box h' ∧ Frs n ws ∧ (∀ w ∈ ws, 0 ≤ w.1) ∧ ws.length = ps.length
  | [], _, h, hb => ⟨[], h, rfl, hb, (fun w hw => by cases hw), (fun w hw => by cases hw), rfl⟩
  | p :: ps, H, h, hb => by
    obtain ⟨sa, sb, pb⟩ := H p List.mem_cons_self
    obtain ⟨k, h1, e1, b1, lt⟩ := draw hb 4 (by decide) (by decide)
    obtain ⟨ws, h2, e2, b2, f2, n2, l2⟩ := we_comp hn hx (fun q hq => H q (List.mem_cons_of_mem _ hq)) h1 b1
    have one : ∃ w : Int × Int, evE reprL T25 eWe (.val (.ref 1) :: s1 :: .val (fD p.1 p.2) :: r) h = some (.ok (fD w.1 w.2) h1) ∧ Fr n w.1 w.2 ∧ 0 ≤ w.1 := by
      have c : evE reprL T25 (.op2 .gt (.call 14 [(.var 0), (.cst (.int 4))]) (.cst (.int 0))) (.val (.ref 1) :: s1 :: .val (fD p.1 p.2) :: r) h = some (.ok (.bl (decide ((0 : Int) < k))) h1) := x2 (xcall (xs_cons rfl (xs_cons rfl xs_nil)) e1) rfl rfl rfl rfl
      by_cases z : (0 : Int) < k
      · rw [decide_eq_true z] at c
        have ab : (if p.1 < 0 then -p.1 else p.1) = (p.1.natAbs : Int) := by
          split <;> omega
        refine ⟨((p.1.natAbs : Int), p.2), iteT c (xtup (xs_cons (x1 (x2 rfl rfl rfl rfl rfl) rfl (show some (D.int (if p.1 < 0 then -p.1 else p.1)) = _ by rw [ab])) (xs_cons (x2 rfl rfl rfl rfl rfl) xs_nil))), ⟨?_, sb, pb⟩, ?_⟩
        · show (p.1.natAbs : Int).natAbs < _
          rw [Int.natAbs_natCast]
          exact sa
        · exact Int.natCast_nonneg _
      · rw [decide_eq_false z] at c
        refine ⟨(0, 1), iteF c (xtup (xs_cons rfl (xs_cons rfl xs_nil))), ⟨?_, one_le hn, by decide⟩, by decide⟩
        show (0 : Int).natAbs < _
        exact Nat.pow_pos (by decide)
    obtain ⟨w, ew, fw, nw⟩ := one
    refine ⟨w :: ws, h2, comp_cons (o := [fD w.1 w.2]) (turn_elt (env1 := .val (.ref 1) :: s1 :: .none :: r) (env2 := .val (.ref 1) :: s1 :: .val (fD p.1 p.2) :: r) (show (if isOwnSl (some x) = true then none else some _) = _ by rw [hx]; rfl) rfl ew) e2, b2, fun q hq => ?_, fun q hq => ?_, congrArg (· + 1) l2⟩
    · rcases List.mem_cons.mp hq with rfl | hq
      · exact fw
      · exact f2 q hq
    · rcases List.mem_cons.mp hq with rfl | hq
      · exact nw
      · exact n2 q hq
end
/-! when the total is nothing -/
theorem sum_nonneg {d : Int} (hd : 0 < d) : ∀ {ws : Ps}, (∀ w ∈ ws, 0 < w.2) → (∀ w ∈ ws, 0 ≤ w.1) → 0 ≤ sumv ws d
  | [], _, _ => Int.le_refl _
  | w :: ws, P, H => by
    rw [sumv_cons]
    have := sum_nonneg hd (fun q hq => P q (List.mem_cons_of_mem _ hq)) fun q hq => H q (List.mem_cons_of_mem _ hq)
    have k := Int.mul_nonneg (H w List.mem_cons_self) (Int.ediv_nonneg (a := d) (b := w.2) (by omega) (by have := P w List.mem_cons_self; omega))
    omega
theorem sum_zero {d : Int} (hd : 0 < d) : ∀ {ws : Ps}, (∀ w ∈ ws, 0 < w.2) → (∀ w ∈ ws, w.2 ∣ d) → (∀ w ∈ ws, 0 ≤ w.1) → (sumv ws d = 0 ↔ ∀ w ∈ ws, w.1 = 0)
  | [], _, _, _ => ⟨fun _ w hw => (by cases hw), fun _ => rfl⟩
  | w :: ws, P, V, H => by
    have ih := sum_zero hd (fun q hq => P q (List.mem_cons_of_mem _ hq)) (fun q hq => V q (List.mem_cons_of_mem _ hq)) fun q hq => H q (List.mem_cons_of_mem _ hq)
    have nn := sum_nonneg hd (fun q hq => P q (List.mem_cons_of_mem _ hq)) fun q hq => H q (List.mem_cons_of_mem _ hq)
    have w2 := P w List.mem_cons_self
    have w1 := H w List.mem_cons_self
    have qp : 0 < d / w.2 := by
      have e : d / w.2 * w.2 = d := Int.ediv_mul_cancel (V w List.mem_cons_self)
      refine Int.lt_of_not_ge fun le => ?_
      have := Int.mul_nonpos_of_nonpos_of_nonneg le (show 0 ≤ w.2 by omega)
      omega
    have k := Int.mul_nonneg w1 (show 0 ≤ d / w.2 by omega)
    rw [sumv_cons]
    constructor
    · intro z q hq
      have z1 : w.1 * (d / w.2) = 0 := by omega
      have z2 : sumv ws d = 0 := by omega
      rcases List.mem_cons.mp hq with rfl | hq
      · exact (Int.mul_eq_zero.mp z1).resolve_right (by omega)
      · exact ih.mp z2 q hq
    · intro z
      rw [z w List.mem_cons_self, ih.mpr fun q hq => z q (List.mem_cons_of_mem _ hq), Int.zero_mul]
      rfl
theorem tT_zero {n : Nat} {ws : Ps} (H : Frs n ws) (N : ∀ w ∈ ws, 0 ≤ w.1) : tT ws = 0 ↔ ∀ w ∈ ws, w.1 = 0 := by
  obtain ⟨c1, _, _, c4⟩ := cb_facts H (by decide) one_sz
  rw [← sum_zero c1 (fun w hw => (H w hw).2.2) c4 N]
  have m := frT_mul (t := sumv ws (cb ws 1)) (b := cb ws 1)
  have x := fr_cross (t := sumv ws (cb ws 1)) (b := cb ws 1)
  have bp := frB_pos (t := sumv ws (cb ws 1)) (b := cb ws 1) (by omega)
  constructor
  · intro z
    rw [show frT (sumv ws (cb ws 1)) (cb ws 1) = 0 from z, Int.zero_mul] at m
    exact m.symm
  · intro z
    rw [z, Int.zero_mul] at x
    show frT _ _ = 0
    rw [z]
    exact (Int.mul_eq_zero.mp x).resolve_right (by omega)
end K01
end

section
set_option Elab.async false
set_option linter.all false
set_option maxRecDepth 100000
namespace K01
open PySem L2 Ev Dr
/-! ### every part, as the law says it -/
theorem tot_law {n : Nat} {ws : Ps} (H : Frs n ws) : tT ws * (lawT ws 0 1).2 = (lawT ws 0 1).1 * tB ws := by
  obtain ⟨c1, _, _, c4⟩ := cb_facts H (by decide) one_sz
  obtain ⟨e1, e2⟩ := lawT_facts (t := 0) (b := 1) c4
  rw [Int.zero_mul, Int.zero_add, Int.one_mul] at e1
  rw [Int.one_mul] at e2
  have x := fr_cross (t := sumv ws (cb ws 1)) (b := cb ws 1)
  refine Int.eq_of_mul_eq_mul_right (show cb ws 1 ≠ 0 by omega) ?_
  calc tT ws * (lawT ws 0 1).2 * cb ws 1 = (tT ws * cb ws 1) * prodB ws := by rw [e2, Int.mul_assoc, Int.mul_comm (prodB ws), ← Int.mul_assoc]
    _ = (sumv ws (cb ws 1) * tB ws) * prodB ws := by rw [show tT ws * cb ws 1 = sumv ws (cb ws 1) * tB ws from x]
    _ = (prodB ws * sumv ws (cb ws 1)) * tB ws := by rw [Int.mul_comm (sumv ws (cb ws 1) * tB ws), ← Int.mul_assoc]
    _ = ((lawT ws 0 1).1 * cb ws 1) * tB ws := by rw [e1]
    _ = (lawT ws 0 1).1 * tB ws * cb ws 1 := by rw [Int.mul_assoc, Int.mul_comm (cb ws 1), ← Int.mul_assoc]
theorem part_law {a b tt tb T U : Int} (hy : b * tt ≠ 0) (h0 : tb ≠ 0) (e : tt * U = T * tb) : frT (a * tb) (b * tt) * (b * T) = a * U * frB (a * tb) (b * tt) := by
  have x := fr_cross (t := a * tb) (b := b * tt)
  revert x
  generalize frT (a * tb) (b * tt) = X
  generalize frB (a * tb) (b * tt) = Y
  intro x
  refine Int.eq_of_mul_eq_mul_right h0 ?_
  calc X * (b * T) * tb = X * b * (T * tb) := by rw [← Int.mul_assoc X b T, Int.mul_assoc (X * b)]
    _ = X * b * (tt * U) := by rw [e]
    _ = X * (b * tt) * U := by rw [← Int.mul_assoc (X * b), Int.mul_assoc X b tt]
    _ = a * tb * Y * U := by rw [x]
    _ = a * U * Y * tb := by
      rw [Int.mul_assoc a tb Y, Int.mul_assoc a (tb * Y) U, Int.mul_assoc a U Y, Int.mul_assoc a (U * Y) tb]
      rw [Int.mul_comm (tb * Y) U, Int.mul_comm tb Y, Int.mul_assoc U Y tb]
section
variable {n m : Nat} {h : Ev.Heap} {ws : Ps} {s0 s1 x s3 s4 s5 s6 s7 s8 s9 s10 : Sl}
abbrev eZp : E := .call 19 [(.var 13), (.op2 .mul (.op2 .ix (.view 2) (.cst (.int 0))) (.view 12)), (.op2 .mul (.op2 .ix (.view 2) (.cst (.int 1))) (.view 11))]
theorem zp_comp (H : Frs n ws) (z : tT ws ≠ 0) (len : n + (n + (1 + n * ws.length) + ws.length) ≤ 1990) (st : Sz m (lawT ws 0 1).1) (su : Sz m (lawT ws 0 1).2) (hm : n + m ≤ 100000) (hx : isOwnSl (some x) = false) : ∃ bs : List D, compLoop (lcTurn T25 eZp [] [13, 2] (.tup [.name 13, .name 2]) [s0, s1, x, s3, s4, s5, s6, s7, s8, s9, s10, .val (.int (lawT ws 0 1).1), .val (.int (lawT ws 0 1).2), .none]) (zipD (scD ws ws) (pD ws)) h = some (.ok bs h) ∧ bs = ws.flatMap fun _ => [D.bl true] := by
  refine ⟨_, ?_, rfl⟩
  obtain ⟨t1, t2, t3, t4⟩ := tot_facts H
  have zz : zipD (scD ws ws) (pD ws) = ws.map fun p => D.tup [fD (frT (p.1 * tB ws) (p.2 * tT ws)) (frB (p.1 * tB ws) (p.2 * tT ws)), fD p.1 p.2] := by
    show List.zipWith _ (List.map _ ws) (List.map _ ws) = _
    rw [List.zipWith_map, List.zipWith_self]
  rw [zz]
  refine comp_map fun p hp => ?_
  obtain ⟨sa, sb, pb⟩ := H p hp
  have ne : p.2 * tT ws ≠ 0 := Int.mul_ne_zero (by omega) z
  obtain ⟨k1, k2⟩ := fr_sz ne (sa.mul t4) (sb.mul t3)
  refine turn_elt (env1 := [s0, s1, .none, s3, s4, s5, s6, s7, s8, s9, s10, .val (.int (lawT ws 0 1).1), .val (.int (lawT ws 0 1).2), .none]) (env2 := [s0, s1, .val (fD p.1 p.2), s3, s4, s5, s6, s7, s8, s9, s10, .val (.int (lawT ws 0 1).1), .val (.int (lawT ws 0 1).2), .val (fD (frT (p.1 * tB ws) (p.2 * tT ws)) (frB (p.1 * tB ws) (p.2 * tT ws)))]) ?_ rfl (xcall (xs_cons rfl (xs_cons (x2 (x2 rfl rfl rfl rfl rfl) rfl rfl rfl (mul_sz sa su (by omega))) (xs_cons (x2 (x2 rfl rfl rfl rfl rfl) rfl rfl rfl (mul_sz sb st (by omega))) xs_nil))) ?_)
  · show (if isOwnSl (some x) = true then none else some _) = _
    rw [hx]
    rfl
  · have e := lequal_run (h := h) k1 k2 len (sa.mul su) (sb.mul st) hm
    rw [fr_isF ne, part_law ne (by omega) (tot_law H), beq_self_eq_true] at e
    exact e
end
end K01
end

section
set_option Elab.async false
set_option linter.all false
set_option maxRecDepth 100000
namespace K01
open PySem L2 Ev Dr
/-! ### the tests of _law_several_right -/
section
variable {n : Nat} {h : Ev.Heap} {ps : Ps} {s0 x s3 : Sl} {r : Ev.Env}
abbrev eT1 : E := .or (.op1 .not (.call 19 [(.call 10 [(.var 1)]), (.var 4), (.var 5)])) (.op1 .not (.call 19 [(.call 11 [(.op1 .tuple (.view 1))]), (.var 6), (.var 7)]))
theorem test1 {m : Nat} (H : Frs n ps) (len : n + (1 + n * ps.length) + ps.length ≤ 1990) (hm : m ≤ 100000) (z1 : Sz m (lawT ps 0 1).1) (z2 : Sz m (lawT ps 0 1).2) (z3 : Sz m (1 * prodA ps)) (z4 : Sz m (1 * prodB ps)) : evE reprL T25 eT1 (env8 s0 (.val (.lst (pD ps))) x s3 (lawT ps 0 1).1 (lawT ps 0 1).2 (1 * prodA ps) (1 * prodB ps) r) h = some (.ok (.bl false) h) := by
  obtain ⟨c1, c2, _, c4⟩ := cb_facts H (by decide) one_sz
  obtain ⟨e1, e2⟩ := lawT_facts (t := 0) (b := 1) c4
  have one0 : Sz 1 1 := one_sz
  obtain ⟨p1, p2, p3, p4, p5⟩ := prd_facts H (by decide) (by decide) one_sz one_sz
  have pos := prodB_pos H
  have eq : (lawT ps 0 1).1 * cb ps 1 = (lawT ps 0 1).2 * sumv ps (cb ps 1) := by
    rw [e1, e2, Int.zero_mul, Int.zero_add, Int.one_mul, Int.one_mul]
  have a := lequal_same (h := h) (show cb ps 1 ≠ 0 by omega) (sumv_sz c1 c2 H) (c2.mono (show 1 + n * ps.length ≤ n + (1 + n * ps.length) + ps.length by omega)) len z1 z2 hm eq
  have b := lequal_run (h := h) p3 p4 (by omega) z3 z4 hm
  rw [p2, p5, beq_self_eq_true] at b
  exact or_e (u := false) (v := false) (not_e (u := true) (xcall (xs_cons (xcall (xs_cons rfl xs_nil) (total_lst H (by omega) (by omega))) (xs_cons rfl (xs_cons rfl xs_nil))) a)) fun _ => not_e (u := true) (xcall (xs_cons (xcall (xs_cons (x1 rfl rfl rfl) xs_nil) (prd_tup H (by omega))) (xs_cons rfl (xs_cons rfl xs_nil))) b)
abbrev eT2 : E := .or (.op2 .ne (.callK 10 [0] [(.op1 .tuple (.op1 .rev (.view 1)))]) (.call 10 [(.var 1)])) (.op2 .ne (.callK 11 [0] [(.op1 .rev (.view 1))]) (.call 11 [(.var 1)]))
theorem test2 {T U A B : Int} (H : Frs n ps) (len : n + (1 + n * ps.length) + ps.length ≤ 1990) : evE reprL T25 eT2 (env8 s0 (.val (.lst (pD ps))) x s3 T U A B r) h = some (.ok (.bl false) h) := by
  have pr := List.reverse_perm ps
  have H' : Frs n ps.reverse := fun p hp => H p (pr.mem_iff.mp hp)
  have rl : (pD ps).reverse = pD ps.reverse := (List.map_reverse ..).symm
  have ll : n * ps.reverse.length ≤ 1990 := by
    rw [List.length_reverse]
    omega
  obtain ⟨u1, u2⟩ := total_perm pr H'
  obtain ⟨v1, v2⟩ := prd_perm pr H'
  have a := total_tup (h := h) H' (by omega) (by omega)
  have b := prd_lst (h := h) H' (by omega)
  rw [u1, u2] at a
  rw [v1, v2] at b
  refine or_e (u := false) (v := false) (x2 (x := fD (tT ps) (tB ps)) (xcallK (xs_cons (x1 (x1 rfl rfl rfl) rfl rfl) xs_nil) rfl ?_) (xcall (xs_cons rfl xs_nil) (total_lst H (by omega) (by omega))) rfl rfl ne_fD) fun _ => x2 (x := fD (prd ps 1 1).1 (prd ps 1 1).2) (xcallK (xs_cons (x1 rfl rfl rfl) xs_nil) rfl ?_) (xcall (xs_cons rfl xs_nil) (prd_lst H (by omega))) rfl rfl ne_fD
  · rw [rl]
    exact a
  · rw [rl]
    exact b
end
end K01
end

section
set_option Elab.async false
set_option linter.all false
set_option maxRecDepth 100000
namespace K01
open PySem L2 Ev Dr
section
variable {n : Nat} {h : Ev.Heap} {ps ws : Ps} {s0 s1 x s3 s4 s5 s6 s7 : Sl} {r : Ev.Env}
abbrev eT3 : E := .or (.op2 .ne (.op1 .repr (.view 8)) (.op1 .repr (.view 9))) (.op2 .ne (.callK 2 [0] [(.op1 .tuple (.view 1))]) (.view 9))
theorem ne_int {i : Int} : o2 .ne (.int i) (.int i) = some (.bl false) := by
  show some (D.bl (!(i == i))) = _
  rw [beq_self_eq_true]
  rfl
theorem repr_ok {i : Int} (ok : reprL.ok (.int i) = true) : o1 reprL .repr (.int i) = some (.str (reprL.text (.int i))) := by
  show (if (true && reprL.ok (.int i)) = true then _ else _) = _
  rw [ok]
  rfl
/-- left to show: ok, for ints of some 1000 bits -/
theorem test3 (ok : reprL.ok (.int (cb ps 1)) = true) (H : Frs n ps) (len : n * ps.length ≤ 7900) : evE reprL T25 eT3 (env10 s0 (.val (.lst (pD ps))) x s3 s4 s5 s6 s7 (.val (.int (cb ps 1))) (cb ps 1) r) h = some (.ok (.bl false) h) :=
  or_e (u := false) (v := false) (x2 (x := .str (reprL.text (.int (cb ps 1)))) (y := .str (reprL.text (.int (cb ps 1)))) (x1 rfl rfl (repr_ok ok)) (x1 rfl rfl (repr_ok ok)) rfl rfl ne_str) fun _ => x2 (xcallK (xs_cons (x1 rfl rfl rfl) xs_nil) rfl (cb_tup H len)) rfl rfl rfl ne_int
abbrev eAll : E := .op1 .all (.lc (.op2 .eq (.op2 .ix (.view 2) (.cst (.int 0))) (.cst (.int 0))) (.name 2) (.view 3) [])
theorem bls_flat {α : Type} (v : α → Bool) : ∀ as : List α, bls? (as.flatMap fun a => [D.bl (v a)]) = some (as.map v)
  | [] => rfl
  | a :: as => by
    rw [List.flatMap_cons]
    show (bls? (as.flatMap fun a => [D.bl (v a)])).map (v a :: ·) = _
    rw [bls_flat v as]
    rfl
theorem all_top (hx : isOwnSl (some x) = false) : evE reprL T25 eAll (s0 :: s1 :: x :: .val (.lst (pD ws)) :: r) h = some (.ok (.bl ((ws.map fun w => w.1 == 0).all id)) h) := by
  have c : compLoop (lcTurn T25 (.op2 .eq (.op2 .ix (.view 2) (.cst (.int 0))) (.cst (.int 0))) [] [2] (.name 2) (s0 :: s1 :: x :: .val (.lst (pD ws)) :: r)) (pD ws) h = some (.ok (ws.flatMap fun w => [D.bl (w.1 == 0)]) h) := by
    refine comp_map fun w hw => turn_elt (env1 := s0 :: s1 :: .none :: .val (.lst (pD ws)) :: r) (env2 := s0 :: s1 :: .val (fD w.1 w.2) :: .val (.lst (pD ws)) :: r) ?_ rfl (x2 (x2 rfl rfl rfl rfl rfl) rfl rfl rfl rfl)
    show (if isOwnSl (some x) = true then none else some _) = _
    rw [hx]
    rfl
  refine x1 (run_lc rfl rfl c) rfl ?_
  show (bls? _).map _ = _
  rw [bls_flat]
  rfl
theorem all_zero : (ws.map fun w : Int × Int => w.1 == 0).all id = true ↔ ∀ w ∈ ws, w.1 = 0 := by
  rw [List.all_eq_true]
  constructor
  · intro k w hw
    exact beq_iff_eq.mp (k _ (List.mem_map_of_mem hw))
  · intro k b hb
    obtain ⟨w, hw, rfl⟩ := List.mem_map.mp hb
    exact beq_iff_eq.mpr (k w hw)
theorem all_true {bs : List D} (e : bs = ws.flatMap fun _ => [D.bl true]) : o1 reprL .all (.lst bs) = some (.bl true) := by
  rw [e]
  show (bls? _).map _ = _
  rw [bls_flat (fun _ => true)]
  show some (D.bl ((ws.map fun _ => true).all id)) = _
  have : (ws.map fun _ => true).all id = true := List.all_eq_true.mpr fun b hb => by
    obtain ⟨w, hw, rfl⟩ := List.mem_map.mp hb
    rfl
  rw [this]
end
end K01
end

section
set_option Elab.async false
set_option linter.all false
set_option maxRecDepth 100000
namespace K01
open PySem PyProof L2 Ev Dr
/-- the text of an int of less than 1920 bits is short enough -/
theorem repr_small {n : Nat} {i : Int} (s : Sz n i) (hn : n ≤ 1900) : reprL.ok (.int i) = true := by
  have l : i.natAbs.log2 < 1920 := by
    have := log_sz s
    omega
  have t := int_text_fits l
  have t' : (PyData.shown (.int i)).length ≤ LIM := Nat.le_trans t (by decide)
  show (decide (i.natAbs.log2 < 1920) && decide ((PyData.shown (.int i)).length ≤ LIM) && decide (D.depth (.int i) ≤ 64)) = true
  rw [decide_eq_true l, decide_eq_true t']
  rfl
end K01
end

section
set_option Elab.async false
set_option linter.all false
set_option maxRecDepth 100000
namespace K01
open PySem L2 Ev Dr
section
variable {α : Type} (f g : α → Int)
theorem plains_fr : ∀ as : List α, D.plains (as.map fun a => fD (f a) (g a)) = true
  | [] => rfl
  | a :: as => by
    show (true && D.plains (as.map fun a => fD (f a) (g a))) = true
    rw [plains_fr as]
    rfl
theorem eqvs_fr : ∀ as : List α, D.eqvs (as.map fun a => fD (f a) (g a)) (as.map fun a => fD (f a) (g a)) = true
  | [] => rfl
  | a :: as => by
    show ((f a == f a) && ((g a == g a) && true) && D.eqvs (as.map fun a => fD (f a) (g a)) (as.map fun a => fD (f a) (g a))) = true
    rw [eqvs_fr as, beq_self_eq_true, beq_self_eq_true]
    rfl
theorem depths_fr : ∀ as : List α, D.depths (as.map fun a => fD (f a) (g a)) ≤ 1
  | [] => Nat.zero_le 1
  | a :: as => by
    show max (D.depth (fD (f a) (g a))) (D.depths (as.map fun a => fD (f a) (g a))) ≤ 1
    exact Nat.max_le.mpr ⟨by show 0 + 1 ≤ 1; decide, depths_fr as⟩
theorem ne_frs (as : List α) : o2 .ne (.tup (as.map fun a => fD (f a) (g a))) (.tup (as.map fun a => fD (f a) (g a))) = some (.bl false) := by
  have hc : cmpOk (.tup (as.map fun a => fD (f a) (g a))) (.tup (as.map fun a => fD (f a) (g a))) = true := by
    unfold cmpOk
    rw [show D.plain (.tup (as.map fun a => fD (f a) (g a))) = true from plains_fr f g as, Nat.min_self]
    have := depths_fr f g as
    rw [decide_eq_true (show D.depth (.tup (as.map fun a => fD (f a) (g a))) ≤ 64 by show D.depths _ + 1 ≤ 64; omega)]
    rfl
  show (if cmpOk _ _ = true then some (D.bl (!D.eqvs _ _)) else none) = _
  rw [if_pos hc, eqvs_fr f g as]
  rfl
end
end K01
end

section
set_option Elab.async false
set_option linter.all false
set_option maxRecDepth 100000
namespace K01
open PySem L2 Ev Dr
/-! ### the second half of _law_several_right -/
theorem half2 {n : Nat} {h : Ev.Heap} {ps : Ps} {s2 s4 s5 s6 s7 s8 s9 : Sl} (hb : Box h) (H : Frs n ps) (h1 : 1 ≤ n) (len : n + (n + (1 + n * ps.length) + ps.length) ≤ 1990) (hx : isOwnSl (some s2) = false) : ∃ h', evSs reprL T25 (b25.drop 7) [.val (.ref 1), .val (.lst (pD ps)), s2, .none, s4, s5, s6, s7, s8, s9, .none, .none, .none, .none] h = some (.ok (.ret (.bl true)) h') ∧ Box h' := by
  obtain ⟨ws, h', c, b', F, N, l⟩ := we_comp (s1 := .val (.lst (pD ps))) (r := [.none, s4, s5, s6, s7, s8, s9, .none, .none, .none, .none]) h1 hx H h hb
  rw [← l] at len
  refine ⟨h', run_cons (h' := h') (run_asg (h1 := h') (d := .lst (pD ws)) (env' := [.val (.ref 1), .val (.lst (pD ps)), s2, .val (.lst (pD ws)), s4, s5, s6, s7, s8, s9, .none, .none, .none, .none]) (run_lc (h' := h) (s := .lst (pD ps)) (xs := pD ps) rfl rfl ?_) rfl) ?_, b'⟩
  · exact c
  · by_cases z : tT ws = 0
    · have zz := all_zero.mpr ((tT_zero F N).mp z)
      have al := all_top (h := h') (ws := ws) (x := s2) (s0 := .val (.ref 1)) (s1 := .val (.lst (pD ps))) (r := [s4, s5, s6, s7, s8, s9, .none, .none, .none, .none]) hx
      rw [zz] at al
      refine run_ret (run_ifT al (run_ret (run_retE (x2 (heard_e rfl (hear_barred (xcallErr (xs_cons rfl xs_nil) (scaled_bad F z fun h => total_lst F (by omega) (by omega))))) rfl rfl rfl ?_))))
      show some (D.bl (("refused barred" : Str) == "refused barred")) = _
      rw [beq_self_eq_true]
    · have nz : (ws.map fun w : Int × Int => w.1 == 0).all id = false := Bool.eq_false_iff.mpr fun k => z ((tT_zero F N).mpr (all_zero.mp k))
      have al := all_top (h := h') (ws := ws) (x := s2) (s0 := .val (.ref 1)) (s1 := .val (.lst (pD ps))) (r := [s4, s5, s6, s7, s8, s9, .none, .none, .none, .none]) hx
      rw [nz] at al
      have sz0 : Sz 1 0 := by
        unfold Sz
        decide
      have nl : n * ws.length ≤ 1990 := by omega
      have nl2 : (n + 1) * ws.length ≤ 4000 := by
        rw [Nat.succ_mul]
        omega
      obtain ⟨x', lp, hx', y1, y2⟩ := wt_loop (h := h') (s0 := .val (.ref 1)) (s1 := .val (.lst (pD ps))) (s3 := .val (.lst (pD ws))) (s4 := s4) (s5 := s5) (s6 := s6) (s7 := s7) (s8 := s8) (s9 := s9) (s10 := .val (.tup (scD ws ws))) (r := [.none]) (t := 0) (b := 1) (k := 1) (x := s2) F sz0 one_sz (by omega) hx
      refine skipI al (run_cons (run_par (ds := [.tup (scD ws ws), .int 0, .int 1]) (env' := env13 (.val (.ref 1)) (.val (.lst (pD ps))) s2 (.val (.lst (pD ws))) s4 s5 s6 s7 s8 s9 (.val (.tup (scD ws ws))) 0 1 [.none]) (xs_cons (xcallK (xs_cons rfl xs_nil) rfl (scaled_ok F z rfl (by omega) fun h => total_lst F (by omega) (by omega))) (xs_cons rfl (xs_cons rfl xs_nil))) rfl) (run_cons (run_for (s := .lst (pD ws)) (xs := pD ws) rfl rfl lp) (skipI ?_ ?_)))
      · have ll : ((scD ws ws).length : Int) = ((pD ws).length : Int) := by
          rw [List.length_map, List.length_map]
        refine or_e (u := false) (v := false) (not_e (u := true) (x1 rfl rfl (isTup_o (x := .tup (scD ws ws)) (plains_fr _ _ ws)))) fun _ => or_e (u := false) (v := false) (x2 (x1 rfl rfl rfl) (x1 rfl rfl rfl) rfl rfl (by rw [ll]; exact ne_int)) fun _ => x2 (xcall (xs_cons (x1 rfl rfl rfl) xs_nil) (scaled_ok F z rfl (by omega) fun h => total_tup F (by omega) (by omega))) rfl rfl rfl (ne_frs _ _ ws)
      · obtain ⟨bs, zc, be⟩ := zp_comp (h := h') (s0 := .val (.ref 1)) (s1 := .val (.lst (pD ps))) (x := x') (s3 := .val (.lst (pD ws))) (s4 := s4) (s5 := s5) (s6 := s6) (s7 := s7) (s8 := s8) (s9 := s9) (s10 := .val (.tup (scD ws ws))) F z len y1 y2 (by omega) hx'
        exact run_ret (run_retE (x1 (run_lc (s := .lst (zipD (scD ws ws) (pD ws))) rfl rfl zc) rfl (all_true be)))
end K01
end

section
set_option Elab.async false
set_option linter.all false
set_option maxRecDepth 100000
namespace K01
open PySem L2 Ev Dr
theorem several {n : Nat} {h : Ev.Heap} {ps : Ps} (hb : Box h) (H : Frs n ps) (h1 : 1 ≤ n) (len : n + (n + (1 + n * ps.length) + ps.length) ≤ 1890) : ∃ h', G25 [.ref 1, .lst (pD ps)] h = some (.ok (.bl true) h') ∧ Box h' := by
  have sz0 : Sz 1 0 := by
    unfold Sz
    decide
  have nl : (n + 1) * ps.length ≤ 4000 := by
    rw [Nat.succ_mul]
    omega
  obtain ⟨x1', l1, hx1, z1, z2, z3, z4⟩ := lw_loop (h := h) (s0 := .val (.ref 1)) (s1 := .val (.lst (pD ps))) (s3 := .none) (r := [.none, .none, .none, .none, .none, .none]) (t := 0) (b := 1) (u := 1) (v := 1) (k := 1) (x := .none) H sz0 one_sz one_sz one_sz (by omega) rfl
  obtain ⟨c1, c2, _, _⟩ := cb_facts H (by decide) one_sz
  obtain ⟨x2', l2, hx2⟩ := cm_loop (h := h) (s0 := .val (.ref 1)) (s1 := .val (.lst (pD ps))) (s3 := .none) (s4 := .val (.int (lawT ps 0 1).1)) (s5 := .val (.int (lawT ps 0 1).2)) (s6 := .val (.int (1 * prodA ps))) (s7 := .val (.int (1 * prodB ps))) (s8 := .val (.int (cb ps 1))) (r := [.none, .none, .none, .none]) (f := 1) (k := 1) (x := x1') H (by decide) one_sz (by omega) hx1
  obtain ⟨h', e, b'⟩ := half2 (s2 := x2') (s4 := .val (.int (lawT ps 0 1).1)) (s5 := .val (.int (lawT ps 0 1).2)) (s6 := .val (.int (1 * prodA ps))) (s7 := .val (.int (1 * prodB ps))) (s8 := .val (.int (cb ps 1))) (s9 := .val (.int (cb ps 1))) hb H h1 (by omega) hx2
  refine ⟨h', fn_ret rfl (run_cons (run_par (ds := [.int 0, .int 1, .int 1, .int 1]) (env' := env8 (.val (.ref 1)) (.val (.lst (pD ps))) .none .none 0 1 1 1 [.none, .none, .none, .none, .none, .none]) (xs_cons rfl (xs_cons rfl (xs_cons rfl (xs_cons rfl xs_nil)))) rfl) (run_cons (run_for (s := .lst (pD ps)) (xs := pD ps) rfl rfl l1) (skipI (test1 H (by omega) (by omega) z1 z2 z3 z4) (skipI (test2 H (by omega)) (run_cons (run_par (ds := [.int (cb ps 1), .int 1]) (env' := env10 (.val (.ref 1)) (.val (.lst (pD ps))) x1' .none (.val (.int (lawT ps 0 1).1)) (.val (.int (lawT ps 0 1).2)) (.val (.int (1 * prodA ps))) (.val (.int (1 * prodB ps))) (.val (.int (cb ps 1))) 1 [.none, .none, .none, .none]) (xs_cons (xcall (xs_cons rfl xs_nil) (cb_lst H (by omega))) (xs_cons rfl xs_nil)) rfl) (run_cons (run_for (s := .lst (pD ps)) (xs := pD ps) rfl rfl l2) (skipI (test3 (repr_small c2 (by omega)) H (by omega)) e))))))), b'⟩
end K01
end

section
set_option Elab.async false
set_option linter.all false
set_option maxRecDepth 100000
namespace K01
open PySem PyProof L2 Ev Dr
/-! ### the text of a list of fractions -/
theorem int_short {i : Int} (s : Sz 104 i) : PyData.showable (.int i) = true ∧ PyData.leavesShort 200 (.int i) = true ∧ PyData.weight (.int i) ≤ 106 := by
  have l := log_sz s
  refine ⟨decide_eq_true (by omega), ?_, ?_⟩
  · have e := int_text_length_le (a := i) (k := 110) (by decide) (by omega)
    simp only [PyData.leavesShort]
    refine decide_eq_true ?_
    show (Str.ofString (toString i)).length ≤ 200
    rw [ofString_length]
    omega
  · simp only [PyData.weight]
    split <;> omega
theorem fr_short {a b : Int} (sa : Sz 104 a) (sb : Sz 104 b) : PyData.showable (D.py (fD a b)) = true ∧ PyData.leavesShort 200 (D.py (fD a b)) = true ∧ PyData.weight (D.py (fD a b)) ≤ 300 := by
  obtain ⟨a1, a2, a3⟩ := int_short sa
  obtain ⟨b1, b2, b3⟩ := int_short sb
  refine ⟨?_, ?_, ?_⟩
  · show (PyData.showable (.int a) && (PyData.showable (.int b) && true)) = true
    rw [a1, b1]
    rfl
  · show PyData.leavesShort 200 (.tuple [.int a, .int b]) = true
    simp only [PyData.leavesShort, PyData.leavesShortAll] at *
    rw [a2, b2]
    rfl
  · show PyData.weight (.tuple [.int a, .int b]) ≤ 300
    simp only [PyData.weight, PyData.weightAll] at *
    omega
theorem frs_short : ∀ {ps : Ps}, Frs 104 ps → PyData.showableAll (D.pys (pD ps)) = true ∧ PyData.leavesShortAll 200 (D.pys (pD ps)) = true ∧ PyData.weightAll (D.pys (pD ps)) ≤ 301 * ps.length
  | [], _ => ⟨rfl, rfl, Nat.le_refl _⟩
  | p :: ps, H => by
    obtain ⟨sa, sb, _⟩ := H p List.mem_cons_self
    obtain ⟨x, y, z⟩ := fr_short sa sb
    obtain ⟨u, v, w⟩ := frs_short fun q hq => H q (List.mem_cons_of_mem _ hq)
    refine ⟨?_, ?_, ?_⟩
    · show (PyData.showable (D.py (fD p.1 p.2)) && PyData.showableAll (D.pys (pD ps))) = true
      rw [x, u]
      rfl
    · show (PyData.leavesShort 200 (D.py (fD p.1 p.2)) && PyData.leavesShortAll 200 (D.pys (pD ps))) = true
      rw [y, v]
      rfl
    · show PyData.weight (D.py (fD p.1 p.2)) + 1 + PyData.weightAll (D.pys (pD ps)) ≤ _
      rw [List.length_cons]
      omega
theorem repr_frs {ps : Ps} (H : Frs 104 ps) (l : ps.length ≤ 100) : o1 reprL .repr (.lst (pD ps)) = some (.str (reprL.text (.lst (pD ps)))) := by
  obtain ⟨u, v, w⟩ := frs_short H
  have t := PyData.shown_le 200 (by decide) (.list (D.pys (pD ps))) (by simpa only [PyData.leavesShort] using v)
  have we : PyData.weight (.list (D.pys (pD ps))) ≤ 301 * ps.length + 10 := by
    simp only [PyData.weight]
    omega
  have t' : (PyData.shown (.list (D.pys (pD ps)))).length ≤ LIM := by
    show _ ≤ 16777216
    omega
  have dp : D.depths (pD ps) ≤ 1 := depths_fr (fun p : Int × Int => p.1) (fun p => p.2) ps
  have ok : reprL.ok (.lst (pD ps)) = true := by
    show (PyData.showableAll (D.pys (pD ps)) && decide ((PyData.shown (.list (D.pys (pD ps)))).length ≤ LIM) && decide (D.depths (pD ps) + 1 ≤ 64)) = true
    rw [u, decide_eq_true t', decide_eq_true (show D.depths (pD ps) + 1 ≤ 64 by omega)]
    rfl
  show (if (D.plains (pD ps) && reprL.ok (.lst (pD ps))) = true then some (D.str (reprL.text (.lst (pD ps)))) else none) = _
  rw [ok, show D.plains (pD ps) = true from plains_fr _ _ ps]
  rfl
end K01
end

section
set_option Elab.async false
set_option linter.all false
set_option maxRecDepth 100000
namespace K01
open PySem L2 Ev Dr
/-! ### one round of the law -/
theorem set1 {i : Nat} {d : D} {env env' : Ev.Env} (k : isOwnSl env[i]? = false) (e : env.set i (.val d) = env') : setTg (.name i) d env = some env' := by
  show (if isOwnSl env[i]? = true then none else some _) = _
  rw [k, e]
  rfl
theorem setPar1 {i : Nat} {ts : List (Bool × Nat)} {d : D} {ds : List D} {env : Ev.Env} {r : Option Ev.Env} (k : isOwnSl env[i]? = false) (e : setPar ts ds (env.set i (.val d)) = r) : setPar ((false, i) :: ts) (d :: ds) env = r := by
  show (if isOwnSl env[i]? = true then none else setPar ts ds _) = _
  rw [k]
  exact e
theorem run_app {Γ : Gm} {i : Nat} {e : E} {env env' : Ev.Env} {h h' : Ev.Heap} {xs : List D} {d : D} (hi : env[i]? = some (.own (.lst xs))) (l : xs.length < LIM) (k : evE reprL Γ e env h = some (.ok d h')) (s : env.set i (.own (.lst (xs ++ [d]))) = env') : evS reprL Γ (.app i e) env h = some (.ok (.nx env') h') := by
  show (if isOL env[i]? = true then R.bindS (evE reprL Γ e env h) env _ else none) = _
  rw [k, hi, ← s]
  show (match (some (Sl.own (.lst xs)) : Option Sl) with | some (.own (.lst xs)) => if xs.length < LIM then rok (Flow.nx (env.set i (.own (.lst (xs ++ [d]))))) h' else none | _ => none) = _
  exact if_pos l
/-- skip a test that fails; the heap may change -/
theorem skipH {Γ : Gm} {env : Ev.Env} {h h1 : Ev.Heap} {t : E} {a ss : List S} {r : R Ev.Flow} (e : evE reprL Γ t env h = some (.ok (.bl false) h1)) (k : evSs reprL Γ ss env h1 = r) : evSs reprL Γ (.ifs t a [] :: ss) env h = r := run_cons (run_ifF e run_nil) k
theorem forTurn_of {Γ : Gm} {tg : Tg} {body : List S} {x : D} {env env1 : Ev.Env} {h : Ev.Heap} {r : R Ev.Flow} (s : setTg tg x env = some env1) (k : evSs reprL Γ body env1 h = r) : forTurn Γ tg body x env h = r := by
  show (match setTg tg x env with | some env => evSs reprL Γ body env h | none => none) = _
  rw [s]
  exact k
/-- a value of which both say the same -/
abbrev bSame : List S := [.ifs (.or (.op2 .ne (.op1 .repr (.call 4 [(.var 4)])) (.op1 .repr (.call 18 [(.var 4)]))) (.op2 .ne (.callK 4 [0] [(.var 4)]) (.call 18 [(.var 4)]))) [.ret (.cst (.bl false))] []]
section
variable {h : Ev.Heap} {s0 s1 s2 s3 : Sl} {r : Ev.Env}
theorem same_loop : ∀ {xs : List D} {x : Sl}, (∀ v ∈ xs, Same v) → isOwnSl (some x) = false → ∃ x', forLoop (forTurn T26 (.name 4) bSame) xs (s0 :: s1 :: s2 :: s3 :: x :: r) h = some (.ok (.nx (s0 :: s1 :: s2 :: s3 :: x' :: r)) h) ∧ isOwnSl (some x') = false
  | [], x, _, hx => ⟨x, rfl, hx⟩
  | v :: vs, x, H, hx => by
    obtain ⟨x', l, hx'⟩ := same_loop (x := .val v) (fun w hw => H w (List.mem_cons_of_mem _ hw)) rfl
    obtain ⟨u, k1, k2⟩ := H v List.mem_cons_self h
    refine ⟨x', loop_cons (forTurn_of (env1 := s0 :: s1 :: s2 :: s3 :: .val v :: r) (set1 hx rfl) (skipI ?_ run_nil)) l, hx'⟩
    exact or_e (u := false) (v := false) (x2 (repr_bl (xcall (xs_cons rfl xs_nil) k1)) (repr_bl (xcall (xs_cons rfl xs_nil) k2)) rfl rfl ne_str) fun _ => x2 (xcallK (xs_cons rfl xs_nil) rfl k1) (xcall (xs_cons rfl xs_nil) k2) rfl rfl ne_bl
end
/-- parts, drawn one behind the other -/
theorem pt_comp {env : Ev.Env} (e1 : env[1]? = some (.val (.ref 1))) (e11 : isOwnSl env[11]? = false) (n11 : isOwnSl (env.set 11 .none)[11]? = false) : ∀ (xs : List D) (h : Ev.Heap), Box h → ∃ (ps : Ps) (h' : Ev.Heap), compLoop (lcTurn T26 (.call 21 [(.var 1)]) [] [11] (.name 11) env) xs h = some (.ok (pD ps) h') ∧ Box h' ∧ Frs 104 ps ∧ ps.length = xs.length
  | [], h, hb => ⟨[], h, rfl, hb, (fun w hw => by cases hw), rfl⟩
  | x :: xs, h, hb => by
    obtain ⟨a, b, h1, k1, b1, f1⟩ := part_run hb
    obtain ⟨ps, h2, k2, b2, f2, l2⟩ := pt_comp e1 e11 n11 xs h1 b1
    refine ⟨(a, b) :: ps, h2, comp_cons (o := [fD a b]) (turn_elt (env1 := env.set 11 .none) (env2 := (env.set 11 .none).set 11 (.val x)) ?_ (set1 n11 rfl) (xcall (xs_cons ?_ xs_nil) k1)) k2, b2, fun q hq => ?_, congrArg (· + 1) l2⟩
    · show (if isOwnSl env[11]? = true then none else some _) = _
      rw [e11]
      rfl
    · show lift h (Sl.get (((env.set 11 .none).set 11 (.val x))[1]?)) = _
      rw [List.getElem?_set_ne (by decide), List.getElem?_set_ne (by decide), e1]
      rfl
    · rcases List.mem_cons.mp hq with rfl | hq
      · exact f1
      · exact f2 q hq
theorem range_ok {r : Nat} (l : r < 1000) : o1 reprL .range (.int r) = some (.lst (rangeD 0 1 r)) := by
  show (if (small62 (r : Int) && decide ((r : Int) ≤ LIM)) = true then some (D.lst (rangeD 0 1 (Int.toNat (r : Int)))) else none) = _
  rw [if_pos, Int.toNat_natCast]
  unfold small62 LIM
  simp
  omega
theorem pick_fr {a b c d : Int} {x : D} (f1 : Fr 104 a b) (f2 : Fr 104 c d) (m : x ∈ [fD a b, fD c d, fD 0 1, fD 1 1]) : ∃ p q, x = fD p q ∧ Fr 104 p q := by
  have lit : ∀ {i : Int}, i.natAbs < 8 → Sz 104 i := fun h => Nat.lt_trans h (by decide)
  simp only [List.mem_cons, List.not_mem_nil, or_false] at m
  rcases m with rfl | rfl | rfl | rfl
  · exact ⟨_, _, rfl, f1⟩
  · exact ⟨_, _, rfl, f2⟩
  · exact ⟨_, _, rfl, lit (by decide), lit (by decide), by decide⟩
  · exact ⟨_, _, rfl, lit (by decide), lit (by decide), by decide⟩
end K01
end

section
set_option Elab.async false
set_option linter.all false
set_option maxRecDepth 100000
namespace K01
open PySem L2 Ev Dr
abbrev bRo : List S := [.par [(false, 7), (false, 8), (false, 9), (false, 10)] [(.call 20 [(.var 1)]), (.call 20 [(.var 1)]), (.call 21 [(.var 1)]), (.call 21 [(.var 1)])], .ifs (.and (.op2 .ne (.view 8) (.cst (.int 0))) (.or (.op1 .not (.call 19 [(.call 3 [(.var 7), (.var 8)]), (.var 7), (.var 8)])) (.op2 .ne (.callK 3 [1, 0] [(.var 8), (.var 7)]) (.call 3 [(.var 7), (.var 8)])))) [.ret (.cst (.bl false))] [], .par [(true, 3)] [(.lst [(.heard 0 (.call 3 [(.var 7), (.cst (.int 0))]))])], .app 3 (.heard 0 (.call 8 [(.var 9), (.tup [(.cst (.int 0)), (.cst (.int 1))])])), .ifs (.op2 .ne (.view 3) (.lst [(.cst (.str "zero")), (.cst (.str "zero"))])) [.ret (.cst (.bl false))] [], .ifs (.or (.op1 .not (.call 24 [(.var 9), (.var 10)])) (.or (.op1 .not (.call 24 [(.var 9), (.tup [(.op2 .sub (.cst (.int 0)) (.op2 .ix (.view 9) (.cst (.int 0)))), (.op2 .ix (.view 9) (.cst (.int 1)))])])) (.op1 .not (.call 24 [(.var 10), (.call 15 [(.var 1), (.lst [(.var 9), (.var 10), (.tup [(.cst (.int 0)), (.cst (.int 1))]), (.tup [(.cst (.int 1)), (.cst (.int 1))])])])])))) [.ret (.cst (.bl false))] [], .for (.name 4) (.lst [(.var 9), (.call 22 [(.var 1), (.var 9)]), (.call 22 [(.var 1), (.var 10)]), (.var 10)]) [.ifs (.or (.op2 .ne (.op1 .repr (.call 4 [(.var 4)])) (.op1 .repr (.call 18 [(.var 4)]))) (.op2 .ne (.callK 4 [0] [(.var 4)]) (.call 18 [(.var 4)]))) [.ret (.cst (.bl false))] []], .asg (.name 5) (.lc (.call 21 [(.var 1)]) (.name 11) (.op1 .range (.call 14 [(.var 1), (.cst (.int 10))])) []), .asg (.name 6) (.op1 .repr (.view 5)), .ifs (.or (.op1 .not (.call 25 [(.var 1), (.var 5)])) (.op2 .ne (.op1 .repr (.view 5)) (.view 6))) [.ret (.cst (.bl false))] []]
abbrev eA : E := (.and (.op2 .ne (.view 8) (.cst (.int 0))) (.or (.op1 .not (.call 19 [(.call 3 [(.var 7), (.var 8)]), (.var 7), (.var 8)])) (.op2 .ne (.callK 3 [1, 0] [(.var 8), (.var 7)]) (.call 3 [(.var 7), (.var 8)]))))
abbrev eC : E := (.or (.op1 .not (.call 24 [(.var 9), (.var 10)])) (.or (.op1 .not (.call 24 [(.var 9), (.tup [(.op2 .sub (.cst (.int 0)) (.op2 .ix (.view 9) (.cst (.int 0)))), (.op2 .ix (.view 9) (.cst (.int 1)))])])) (.op1 .not (.call 24 [(.var 10), (.call 15 [(.var 1), (.lst [(.var 9), (.var 10), (.tup [(.cst (.int 0)), (.cst (.int 1))]), (.tup [(.cst (.int 1)), (.cst (.int 1))])])])]))))
abbrev eE : E := (.or (.op1 .not (.call 25 [(.var 1), (.var 5)])) (.op2 .ne (.op1 .repr (.view 5)) (.view 6)))
/-- the twelve slots -/
abbrev e12 (L : D) (s2 s3 s4 s5 s6 s7 s8 s9 s10 : Sl) : Ev.Env := [.bor L, .val (.ref 1), s2, s3, s4, s5, s6, s7, s8, s9, s10, .none]
abbrev fre (s : Sl) : Prop := isOwnSl (some s) = false
section
variable {L : D} {h : Ev.Heap} {s2 s3 s4 s5 s6 s7 s8 s9 s10 : Sl} {t b a1 b1 a2 b2 : Int}
theorem tA (st : Sz 103 t) (sb : Sz 103 b) : evE reprL T26 eA (e12 L s2 s3 s4 s5 s6 (.val (.int t)) (.val (.int b)) s9 s10) h = some (.ok (.bl false) h) := by
  have e := and_e (Γ := T26) (env := e12 L s2 s3 s4 s5 s6 (.val (.int t)) (.val (.int b)) s9 s10) (h := h) (x := .op2 .ne (.view 8) (.cst (.int 0))) (y := .or (.op1 .not (.call 19 [(.call 3 [(.var 7), (.var 8)]), (.var 7), (.var 8)])) (.op2 .ne (.callK 3 [1, 0] [(.var 8), (.var 7)]) (.call 3 [(.var 7), (.var 8)]))) (u := !(b == 0)) (v := false) (x2 rfl rfl rfl rfl rfl) fun k => by
    have nb : b ≠ 0 := fun z => by rw [z] at k; exact absurd k (by decide)
    have fr := frac_run (t := t) nb (sb.mono (show 103 ≤ 9000 by decide)) h
    exact or_e (u := false) (v := false) (not_e (u := true) (xcall (xs_cons (xcall (xs_cons rfl (xs_cons rfl xs_nil)) fr) (xs_cons rfl (xs_cons rfl xs_nil))) (lequal_fr nb st sb (by decide)))) fun _ => x2 (xcallK (xs_cons rfl (xs_cons rfl xs_nil)) rfl fr) (xcall (xs_cons rfl (xs_cons rfl xs_nil)) fr) rfl rfl ne_fD
  rw [Bool.and_false] at e
  exact e
theorem tC (hb : Box h) (f1 : Fr 104 a1 b1) (f2 : Fr 104 a2 b2) : ∃ h', evE reprL T26 eC (e12 L s2 s3 s4 s5 s6 s7 s8 (.val (fD a1 b1)) (.val (fD a2 b2))) h = some (.ok (.bl false) h') ∧ Box h' := by
  obtain ⟨x, h', m, k, b'⟩ := pick hb (xs := [fD a1 b1, fD a2 b2, fD 0 1, fD 1 1]) (by show (0 : Nat) < 4; decide) (by show (4 : Nat) < 2 ^ 62; decide)
  obtain ⟨p, q, rfl, f3⟩ := pick_fr f1 f2 m
  obtain ⟨sa1, sb1, p1⟩ := f1
  obtain ⟨sa2, sb2, p2⟩ := f2
  obtain ⟨sa3, sb3, p3⟩ := f3
  have up : ∀ {i : Int}, Sz 104 i → Sz 105 i := fun s => s.mono (by decide)
  have sn : Sz 105 (0 - a1) := by
    unfold Sz at *
    omega
  refine ⟨h', xorF (not_e (u := true) (xcall (xs_cons rfl (xs_cons rfl xs_nil)) (pair_right sa1 sb1 sa2 sb2 (by decide) p1 p2))) (xorF (not_e (u := true) (xcall (xs_cons rfl (xs_cons (xtup (xs_cons (x2 rfl (x2 rfl rfl rfl rfl rfl) rfl rfl rfl) (xs_cons (x2 rfl rfl rfl rfl rfl) xs_nil))) xs_nil)) (pair_right (up sa1) (up sb1) sn (up sb1) (by decide) p1 p1))) (x1 (x := .bl true) (h1 := h') (xcall (xs_cons rfl (xs_cons (xcall (xs_cons rfl (xs_cons (xlst (xs_cons rfl (xs_cons rfl (xs_cons rfl (xs_cons rfl xs_nil))))) xs_nil)) k) xs_nil)) (pair_right sa2 sb2 sa3 sb3 (by decide) p2 p3)) rfl rfl)), b'⟩
theorem tE {ps : Ps} (hb : Box h) (H : Frs 104 ps) (l : ps.length < 10) : ∃ h', evE reprL T26 eE (e12 L s2 s3 s4 (.val (.lst (pD ps))) (.val (.str (reprL.text (.lst (pD ps))))) s7 s8 s9 s10) h = some (.ok (.bl false) h') ∧ Box h' := by
  obtain ⟨h', k, b'⟩ := several hb H (by decide) (by omega)
  exact ⟨h', xorF (x1 (x := .bl true) (h1 := h') (xcall (xs_cons rfl (xs_cons rfl xs_nil)) k) rfl rfl) (x2 (x1 rfl rfl (repr_frs H (by omega))) rfl rfl rfl ne_str), b'⟩
theorem ne_two {s : Str} : o2 .ne (.lst [.str s, .str s]) (.lst [.str s, .str s]) = some (.bl false) := by
  show some (D.bl (!((s == s) && ((s == s) && true)))) = _
  rw [beq_self_eq_true]
  rfl
theorem round (hb : Box h) (n4 : fre s4) (n5 : fre s5) (n6 : fre s6) (n7 : fre s7) (n8 : fre s8) (n9 : fre s9) (n10 : fre s10) : ∃ t3 t4 t5 t6 t7 t8 t9 t10 h', evSs reprL T26 bRo (e12 L s2 s3 s4 s5 s6 s7 s8 s9 s10) h = some (.ok (.nx (e12 L s2 t3 t4 t5 t6 t7 t8 t9 t10)) h') ∧ Box h' ∧ fre t4 ∧ fre t5 ∧ fre t6 ∧ fre t7 ∧ fre t8 ∧ fre t9 ∧ fre t10 := by
  obtain ⟨t, h1, k1, q1, z1⟩ := integer_run hb
  obtain ⟨b, h2, k2, q2, z2⟩ := integer_run q1
  obtain ⟨a1, b1, h3, k3, q3, f1⟩ := part_run q2
  obtain ⟨a2, b2, h4, k4, q4, f2⟩ := part_run q3
  obtain ⟨h5, k5, q5⟩ := tC (L := L) (s2 := s2) (s3 := .own (.lst [.str "zero", .str "zero"])) (s4 := s4) (s5 := s5) (s6 := s6) (s7 := .val (.int t)) (s8 := .val (.int b)) q4 f1 f2
  obtain ⟨x, h6, k6, q6, m1⟩ := odd_run f1 (by decide) q5
  obtain ⟨y, h7, k7, q7, m2⟩ := odd_run f2 (by decide) q6
  obtain ⟨x4, k8, n4'⟩ := same_loop (h := h7) (s0 := .bor L) (s1 := .val (.ref 1)) (s2 := s2) (s3 := .own (.lst [.str "zero", .str "zero"])) (r := [s5, s6, .val (.int t), .val (.int b), .val (fD a1 b1), .val (fD a2 b2), .none]) (xs := [fD a1 b1, x, y, fD a2 b2]) (x := s4) (by
    intro v hv
    simp only [List.mem_cons, List.not_mem_nil, or_false] at hv
    rcases hv with rfl | rfl | rfl | rfl
    · exact same_pair f1.1 f1.2.1 (by decide)
    · exact m1
    · exact m2
    · exact same_pair f2.1 f2.2.1 (by decide)) n4
  obtain ⟨n, h8, k9, q8, l8⟩ := draw q7 10 (by decide) (by decide)
  obtain ⟨ps, h9, k10, q9, F, lp⟩ := pt_comp (env := e12 L s2 (.own (.lst [.str "zero", .str "zero"])) x4 s5 s6 (.val (.int t)) (.val (.int b)) (.val (fD a1 b1)) (.val (fD a2 b2))) rfl rfl rfl (rangeD 0 1 n) h8 q8
  have lp : ps.length < 10 := by
    rw [lp]
    unfold rangeD
    rw [List.length_map, List.length_range]
    exact l8
  obtain ⟨h10, k11, q10⟩ := tE (L := L) (s2 := s2) (s3 := .own (.lst [.str "zero", .str "zero"])) (s4 := x4) (s7 := .val (.int t)) (s8 := .val (.int b)) (s9 := .val (fD a1 b1)) (s10 := .val (fD a2 b2)) q9 F lp
  have z1' : Sz 104 1 := by
    unfold Sz
    decide
  refine ⟨.own (.lst [.str "zero", .str "zero"]), x4, .val (.lst (pD ps)), .val (.str (reprL.text (.lst (pD ps)))), .val (.int t), .val (.int b), .val (fD a1 b1), .val (fD a2 b2), h10, ?_, q10, n4', rfl, rfl, rfl, rfl, rfl, rfl⟩
  refine run_cons (h' := h4) (run_par (h1 := h4) (ds := [.int t, .int b, fD a1 b1, fD a2 b2]) (env' := e12 L s2 s3 s4 s5 s6 (.val (.int t)) (.val (.int b)) (.val (fD a1 b1)) (.val (fD a2 b2))) (xs_cons (xcall (xs_cons rfl xs_nil) k1) (xs_cons (xcall (xs_cons rfl xs_nil) k2) (xs_cons (xcall (xs_cons rfl xs_nil) k3) (xs_cons (xcall (xs_cons rfl xs_nil) k4) xs_nil)))) (setPar1 n7 (setPar1 n8 (setPar1 n9 (setPar1 n10 rfl))))) ?_
  refine skipI (tA z1 z2) ?_
  refine run_cons (h' := h4) (run_par (h1 := h4) (ds := [.lst [.str "zero"]]) (env' := e12 L s2 (.own (.lst [.str "zero"])) s4 s5 s6 (.val (.int t)) (.val (.int b)) (.val (fD a1 b1)) (.val (fD a2 b2))) (xs_cons (xlst (xs_cons (heard_e rfl (hear_zero (xcallErr (xs_cons rfl (xs_cons rfl xs_nil)) (frac_zero t h4)))) xs_nil)) xs_nil) rfl) ?_
  refine run_cons (h' := h4) (run_app (xs := [.str "zero"]) (d := .str "zero") (env' := e12 L s2 (.own (.lst [.str "zero", .str "zero"])) s4 s5 s6 (.val (.int t)) (.val (.int b)) (.val (fD a1 b1)) (.val (fD a2 b2))) rfl (by decide) (heard_e rfl (hear_zero (xcallErr (xs_cons rfl (xs_cons (xtup (xs_cons rfl (xs_cons rfl xs_nil))) xs_nil)) (divided_zero f1.1 f1.2.1 z1' (by decide))))) rfl) ?_
  refine skipI (x2 rfl rfl rfl rfl ne_two) (skipH k5 ?_)
  refine run_cons (h' := h7) (run_for (h' := h7) (s := .lst [fD a1 b1, x, y, fD a2 b2]) (xlst (xs_cons rfl (xs_cons (xcall (xs_cons rfl (xs_cons rfl xs_nil)) k6) (xs_cons (xcall (xs_cons rfl (xs_cons rfl xs_nil)) k7) (xs_cons rfl xs_nil))))) rfl k8) ?_
  refine run_cons (h' := h9) (run_asg (h1 := h9) (d := .lst (pD ps)) (env' := e12 L s2 (.own (.lst [.str "zero", .str "zero"])) x4 (.val (.lst (pD ps))) s6 (.val (.int t)) (.val (.int b)) (.val (fD a1 b1)) (.val (fD a2 b2))) (run_lc (h' := h8) (s := .lst (rangeD 0 1 n)) (xs := rangeD 0 1 n) (x1 (x := .int n) (xcall (xs_cons rfl (xs_cons rfl xs_nil)) k9) rfl (range_ok (by omega))) rfl k10) (set1 n5 rfl)) ?_
  refine run_cons (h' := h9) (run_asg (h1 := h9) (d := .str (reprL.text (.lst (pD ps)))) (env' := e12 L s2 (.own (.lst [.str "zero", .str "zero"])) x4 (.val (.lst (pD ps))) (.val (.str (reprL.text (.lst (pD ps))))) (.val (.int t)) (.val (.int b)) (.val (fD a1 b1)) (.val (fD a2 b2))) (x1 rfl rfl (repr_frs F (by omega))) (set1 n6 rfl)) ?_
  exact skipH k11 run_nil
end
end K01
end

section
set_option Elab.async false
set_option linter.all false
set_option maxRecDepth 100000
namespace K01
open PySem L2 Ev Dr
section
variable {L : D}
theorem rounds : ∀ (xs : List D) {h : Ev.Heap} {s2 s3 s4 s5 s6 s7 s8 s9 s10 : Sl}, Box h → fre s2 → fre s4 → fre s5 → fre s6 → fre s7 → fre s8 → fre s9 → fre s10 → ∃ env' h', forLoop (forTurn T26 (.name 2) bRo) xs (e12 L s2 s3 s4 s5 s6 s7 s8 s9 s10) h = some (.ok (.nx env') h')
  | [], h, _, _, _, _, _, _, _, _, _, hb, _, _, _, _, _, _, _, _ => ⟨_, h, rfl⟩
  | x :: xs, h, s2, s3, s4, s5, s6, s7, s8, s9, s10, hb, n2, n4, n5, n6, n7, n8, n9, n10 => by
    obtain ⟨t3, t4, t5, t6, t7, t8, t9, t10, h1, k, b1, m4, m5, m6, m7, m8, m9, m10⟩ := round (L := L) (s2 := .val x) (s3 := s3) hb n4 n5 n6 n7 n8 n9 n10
    obtain ⟨env', h2, k2⟩ := rounds xs (s2 := .val x) (s3 := t3) b1 rfl m4 m5 m6 m7 m8 m9 m10
    exact ⟨env', h2, loop_cons (forTurn_of (env1 := e12 L (.val x) s3 s4 s5 s6 s7 s8 s9 s10) (set1 n2 rfl) k) k2⟩
end
/-! ### the constant checks -/
section
variable {env : Ev.Env} {h : Ev.Heap}
theorem c1 : G3 [.int 6, .int (0 - 4)] h = some (.ok (fD (0 - 3) 2) h) := by
  have e := frac_run (t := 6) (b := 0 - 4) (by decide) (by show (4 : Nat) < 2 ^ 9000; exact Nat.lt_of_lt_of_le (by decide : 4 < 2 ^ 3) (Nat.pow_le_pow_right (by decide) (by decide))) h
  rw [show frT 6 (0 - 4) = 0 - 3 by decide +kernel, show frB 6 (0 - 4) = 2 by decide +kernel] at e
  exact e
theorem c2 : G3 [.int 0, .int (0 - 9)] h = some (.ok (fD 0 1) h) := by
  have e := frac_run (t := 0) (b := 0 - 9) (by decide) (by show (9 : Nat) < 2 ^ 9000; exact Nat.lt_of_lt_of_le (by decide : 9 < 2 ^ 4) (Nat.pow_le_pow_right (by decide) (by decide))) h
  rw [show frT 0 (0 - 9) = 0 by decide +kernel, show frB 0 (0 - 9) = 1 by decide +kernel] at e
  exact e
theorem fno : Frs 2 [] := fun p hp => by cases hp
theorem c3 : G10 [.tup []] h = some (.ok (fD 0 1) h) := by
  have e := total_tup (h := h) fno (by decide) (by decide)
  rw [show frT (sumv [] (cb [] 1)) (cb [] 1) = 0 by decide +kernel, show frB (sumv [] (cb [] 1)) (cb [] 1) = 1 by decide +kernel] at e
  exact e
theorem c4 : G11 [.lst []] h = some (.ok (fD 1 1) h) := prd_lst (n := 2) fno (by decide)
theorem c5 : G2 [.tup []] h = some (.ok (.int 1) h) := cb_tup (n := 2) fno (by decide)
theorem c6 : G12 [.tup []] h = some (.err 1 ["word"] [.str "barred"] h) := scaled_bad (n := 2) (ps := []) (s := .tup (pD [])) fno (by decide +kernel) fun h => total_tup (n := 2) (ps := []) fno (by decide) (by decide)
abbrev ps3 : Ps := [(1, 2), (1, 3), (0, 1)]
theorem fps3 : Frs 3 ps3 := by
  intro p hp
  simp only [List.mem_cons, List.not_mem_nil, or_false] at hp
  rcases hp with rfl | rfl | rfl <;> exact ⟨by unfold Sz; decide, by unfold Sz; decide, by decide⟩
theorem c7 : G12 [.tup [fD 1 2, fD 1 3, fD 0 1]] h = some (.ok (.tup [fD 3 5, fD 2 5, fD 0 1]) h) := by
  have e := scaled_ok (s := .tup (pD ps3)) (h := h) fps3 (by decide +kernel) rfl (by decide) fun h => total_tup fps3 (by decide) (by decide)
  have k : (ps3.map fun p : Int × Int => (frT (p.1 * tB ps3) (p.2 * tT ps3), frB (p.1 * tB ps3) (p.2 * tT ps3))) = [(3, 5), (2, 5), (0, 1)] := by decide +kernel
  have l : scD ps3 ps3 = [fD 3 5, fD 2 5, fD 0 1] := congrArg (List.map fun q : Int × Int => fD q.1 q.2) k
  rw [l] at e
  exact e
theorem c8 : G9 [fD 1 3, fD 2 5] h = some (.ok (.bl true) h) := less_run (n := 3) (by unfold Sz; decide) (by unfold Sz; decide) (by unfold Sz; decide) (by unfold Sz; decide) (by decide)
theorem c9 : G6 [fD 1 2, fD 2 3] h = some (.ok (fD (0 - 1) 6) h) := by
  have e := taken_run (h := h) (n := 3) (a := 1) (b := 2) (c := 2) (d := 3) (by unfold Sz; decide) (by unfold Sz; decide) (by unfold Sz; decide) (by unfold Sz; decide) (by decide) (by decide)
  rw [show frT (1 * 3 - 2 * 2) (2 * 3) = 0 - 1 by decide +kernel, show frB (1 * 3 - 2 * 2) (2 * 3) = 6 by decide +kernel] at e
  exact e
end
end K01
end

section
set_option Elab.async false
set_option linter.all false
set_option maxRecDepth 100000
namespace K01
open PySem L2 Ev Dr
theorem close_run {env : Ev.Env} {h : Ev.Heap} : evSs reprL T26 (b26.drop 2) env h = some (.ok (.ret (.bl true)) h) := by
  refine skipI (or_e (u := false) (v := false) (x2 rfl rfl rfl rfl rfl) fun _ => or_e (u := false) (v := false) (x2 (xcall (xs_cons rfl (xs_cons (x2 rfl rfl rfl rfl rfl) xs_nil)) c1) (xtup (xs_cons (x2 rfl rfl rfl rfl rfl) (xs_cons rfl xs_nil))) rfl rfl ne_fD) fun _ => x2 (xcall (xs_cons rfl (xs_cons (x2 rfl rfl rfl rfl rfl) xs_nil)) c2) rfl rfl rfl ne_fD) ?_
  refine skipI (or_e (u := false) (v := false) (x2 (xcall (xs_cons rfl xs_nil) c3) rfl rfl rfl ne_fD) fun _ => or_e (u := false) (v := false) (x2 (xcall (xs_cons rfl xs_nil) c4) rfl rfl rfl ne_fD) fun _ => or_e (u := false) (v := false) (x2 (xcall (xs_cons rfl xs_nil) c5) rfl rfl rfl ne_int) fun _ => x2 (heard_e rfl (hear_barred (xcallErr (xs_cons rfl xs_nil) c6))) rfl rfl rfl ne_str) ?_
  refine run_ret (run_retE (xandT (x2 (xcall (xs_cons rfl xs_nil) c7) rfl rfl rfl rfl) (xandT (x2 (xcall (xs_cons rfl (xs_cons rfl xs_nil)) c8) rfl rfl rfl rfl) (x2 (xcall (xs_cons rfl (xs_cons rfl xs_nil)) c9) (xtup (xs_cons (x2 rfl rfl rfl rfl rfl) (xs_cons rfl xs_nil))) rfl rfl eq_fD))))
theorem range_e {ns : List Int} {env : Ev.Env} {h : Ev.Heap} : ∃ n : Nat, evE reprL T26 (.op1 .range (.op2 .add (.cst (.int 3)) (.op2 .mul (.cst (.int 3)) (.op1 .int (.op2 .gt (.op1 .len (.view 0)) (.cst (.int 2))))))) (.bor (.lst (ns.map D.int)) :: env) h = some (.ok (.lst (rangeD 0 1 n)) h) := by
  have g : evE reprL T26 (.op2 .gt (.op1 .len (.view 0)) (.cst (.int 2))) (.bor (.lst (ns.map D.int)) :: env) h = some (.ok (.bl (decide ((2 : Int) < ((ns.map D.int).length : Int)))) h) := x2 (x1 rfl rfl rfl) rfl rfl rfl rfl
  generalize decide ((2 : Int) < ((ns.map D.int).length : Int)) = c at g
  cases c
  · exact ⟨3, x1 (x := .int 3) (x2 rfl (x2 rfl (x1 g rfl rfl) rfl rfl rfl) rfl rfl rfl) rfl rfl⟩
  · exact ⟨6, x1 (x := .int 6) (x2 rfl (x2 rfl (x1 g rfl rfl) rfl rfl rfl) rfl rfl rfl) rfl rfl⟩
theorem answers (ns : List Int) (len : ns.length ≤ 63) : ∃ h, G26 [.lst (ns.map D.int)] [] = some (.ok (.bl true) h) := by
  obtain ⟨h, k, hb⟩ := heap_run (Γ := T13) 12011 69621 29 (by decide) (by decide) ns
  obtain ⟨n, kr⟩ := range_e (ns := ns) (env := (e12 (.lst (ns.map D.int)) .none .none .none .none .none .none .none .none .none).tail) (h := h)
  obtain ⟨env', h', kl⟩ := rounds (L := .lst (ns.map D.int)) (rangeD 0 1 n) (s2 := .none) (s3 := .none) (s4 := .none) (s5 := .none) (s6 := .none) (s7 := .none) (s8 := .none) (s9 := .none) (s10 := .none) hb rfl rfl rfl rfl rfl rfl rfl rfl
  exact ⟨h', fn_ret rfl (run_cons (h' := h) (run_asg (h1 := h) (d := .ref 1) (env' := e12 (.lst (ns.map D.int)) .none .none .none .none .none .none .none .none .none) (xcall (xs_cons rfl xs_nil) k) rfl) (run_cons (h' := h') (run_for (h' := h) kr rfl kl) close_run))⟩
end K01
end

section
set_option Elab.async false
set_option linter.all false
set_option maxRecDepth 100000
open PySem PySem.W PyProof.Rows Ev L2 K01
/-! the whole -/
-- answers : ∀ ns : List Int, ns.length ≤ 63 → ∃ h, G26 [.lst (ns.map D.int)] [] = some (.ok (.bl true) h)
set_option maxHeartbeats 0 in
theorem PySem.Challenge.cw_allworlds_k01_whole_fractions_holds : PySem.Challenge.rw_allworlds_k01_whole_fractions.Holds := by
  w_on
  o_law
  k_head
  case hw => w_witness2
  k_fill
  letI : Ev.TabList := ⟨[], fun _ => 0⟩
  refine Ev.walkG (l := PySem.Challenge.rw_allworlds_k01_whole_fractions) (n := 63) (k := 18) (x := "_law_script") (CX := fun w => L2.CX PySem.Challenge.pw_allworlds_k01_whole_fractions w) rfl (by decide) rfl ⟨rfl, by decide, by decide⟩ (fun w h Y => PySem.W.km_in_of Y) ?F (fun _ _ _ _ _ h => Ev.no_end h)
  case F =>
    intro w mg fa h KX G hmg
    refine' law_all KX G hmg answers ?a0 ?l0 ?c0 ?k0 ?a1 ?l1 ?c1 ?k1 ?a2 ?l2 ?c2 ?k2 ?a3 ?l3 ?c3 ?k3 ?a4 ?l4 ?c4 ?k4 ?a5 ?l5 ?c5 ?k5 ?a6 ?l6 ?c6 ?k6 ?a7 ?l7 ?c7 ?k7 ?a8 ?l8 ?c8 ?k8 ?a9 ?l9 ?c9 ?k9 ?a10 ?l10 ?c10 ?k10 ?a11 ?l11 ?c11 ?k11 ?a12 ?l12 ?c12 ?k12 ?a13 ?l13 ?c13 ?k13 ?a14 ?l14 ?c14 ?k14 ?a15 ?l15 ?c15 ?k15 ?a16 ?l16 ?c16 ?k16 ?a17 ?l17 ?c17 ?k17 ?a18 ?l18 ?c18 ?k18 ?a19 ?l19 ?c19 ?k19 ?a20 ?l20 ?c20 ?k20 ?a21 ?l21 ?c21 ?k21 ?a22 ?l22 ?c22 ?k22 ?a23 ?l23 ?c23 ?k23 ?a24 ?l24 ?c24 ?k24 ?a25 ?l25 ?c25 ?k25 ?a26 ?l26 ?c26 ?k26 ?lk24 ?vl24 ?hd24 ?ot24 ?lk25 ?vl25 ?hd25 ?ot25 ?lk26 ?vl26 ?hd26 ?ot26 ?z0 ?z1 ?z2 ?z3 ?z4 ?z5 ?z6 ?z7 ?z8 ?z9 ?z10 ?y0 ?yl0 ?y1 ?yl1 ?sup ?opq ?spc ?tks ?E0x ?E0lC ?E0hb ?E0sa ?E0ex ?E0ty ?E0kc ?E0iC ?E0tI ?E0lk ?E0co ?E0lc ?E0fi ?E0ce ?E0cl ?E0mr ?E0al ?E0va ?E0nword ?E0ga ?E0gk ?E0hd ?E0ha ?E0hm ?E1x ?E1lC ?E1hb ?E1sa ?E1ex ?E1ty ?E1kc ?E1iC ?E1tI ?E1lk ?E1co ?E1lc ?E1fi ?E1ce ?E1cl ?E1mr ?E1al ?E1va ?E1nword ?E1ga ?E1gk ?E1hd ?E1ha ?E1hm ?X0s0 ?X0k0 ?X0s1 ?X0k1 ?X1x ?X1ex ?X1hd ?X1ty ?X1s0 ?X1k0 ?X1s1 ?X1k1 ?X2s0 ?X2k0 ?X2s1 ?X2k1 ?rc24 ?rc25 ?rc26 ?nd
    (case a0 => first | k_is | exact rfl | kernel_rfl); (case l0 => first | k_is | exact rfl | kernel_rfl); (case c0 => first | k_is | exact rfl | kernel_rfl); (case k0 => first | k_is | exact rfl | kernel_rfl); (case a1 => first | k_is | exact rfl | kernel_rfl); (case l1 => first | k_is | exact rfl | kernel_rfl); (case c1 => first | k_is | exact rfl | kernel_rfl); (case k1 => first | k_is | exact rfl | kernel_rfl); (case a2 => first | k_is | exact rfl | kernel_rfl); (case l2 => first | k_is | exact rfl | kernel_rfl); (case c2 => first | k_is | exact rfl | kernel_rfl); (case k2 => first | k_is | exact rfl | kernel_rfl); (case a3 => first | k_is | exact rfl | kernel_rfl); (case l3 => first | k_is | exact rfl | kernel_rfl); (case c3 => first | k_is | exact rfl | kernel_rfl); (case k3 => first | k_is | exact rfl | kernel_rfl); (case a4 => first | k_is | exact rfl | kernel_rfl); (case l4 => first | k_is | exact rfl | kernel_rfl); (case c4 => first | k_is | exact rfl | kernel_rfl); (case k4 => first | k_is | exact rfl | kernel_rfl); (case a5 => first | k_is | exact rfl | kernel_rfl); (case l5 => first | k_is | exact rfl | kernel_rfl); (case c5 => first | k_is | exact rfl | kernel_rfl); (case k5 => first | k_is | exact rfl | kernel_rfl); (case a6 => first | k_is | exact rfl | kernel_rfl); (case l6 => first | k_is | exact rfl | kernel_rfl); (case c6 => first | k_is | exact rfl | kernel_rfl); (case k6 => first | k_is | exact rfl | kernel_rfl); (case a7 => first | k_is | exact rfl | kernel_rfl); (case l7 => first | k_is | exact rfl | kernel_rfl); (case c7 => first | k_is | exact rfl | kernel_rfl); (case k7 => first | k_is | exact rfl | kernel_rfl); (case a8 => first | k_is | exact rfl | kernel_rfl); (case l8 => first | k_is | exact rfl | kernel_rfl); (case c8 => first | k_is | exact rfl | kernel_rfl); (case k8 => first | k_is | exact rfl | kernel_rfl); (case a9 => first | k_is | exact rfl | kernel_rfl); (case l9 => first | k_is | exact rfl | kernel_rfl); (case c9 => first | k_is | exact rfl | kernel_rfl); (case k9 => first | k_is | exact rfl | kernel_rfl); (case a10 => first | k_is | exact rfl | kernel_rfl); (case l10 => first | k_is | exact rfl | kernel_rfl); (case c10 => first | k_is | exact rfl | kernel_rfl); (case k10 => first | k_is | exact rfl | kernel_rfl); (case a11 => first | k_is | exact rfl | kernel_rfl); (case l11 => first | k_is | exact rfl | kernel_rfl); (case c11 => first | k_is | exact rfl | kernel_rfl); (case k11 => first | k_is | exact rfl | kernel_rfl); (case a12 => first | k_is | exact rfl | kernel_rfl); (case l12 => first | k_is | exact rfl | kernel_rfl); (case c12 => first | k_is | exact rfl | kernel_rfl); (case k12 => first | k_is | exact rfl | kernel_rfl); (case a13 => first | k_is | exact rfl | kernel_rfl); (case l13 => first | k_is | exact rfl | kernel_rfl); (case c13 => first | k_is | exact rfl | kernel_rfl); (case k13 => first | k_is | exact rfl | kernel_rfl); (case a14 => first | k_is | exact rfl | kernel_rfl); (case l14 => first | k_is | exact rfl | kernel_rfl); (case c14 => first | k_is | exact rfl | kernel_rfl); (case k14 => first | k_is | exact rfl | kernel_rfl); (case a15 => first | k_is | exact rfl | kernel_rfl); (case l15 => first | k_is | exact rfl | kernel_rfl); (case c15 => first | k_is | exact rfl | kernel_rfl); (case k15 => first | k_is | exact rfl | kernel_rfl); (case a16 => first | k_is | exact rfl | kernel_rfl); (case l16 => first | k_is | exact rfl | kernel_rfl); (case c16 => first | k_is | exact rfl | kernel_rfl); (case k16 => first | k_is | exact rfl | kernel_rfl); (case a17 => first | k_is | exact rfl | kernel_rfl); (case l17 => first | k_is | exact rfl | kernel_rfl); (case c17 => first | k_is | exact rfl | kernel_rfl); (case k17 => first | k_is | exact rfl | kernel_rfl); (case a18 => first | k_is | exact rfl | kernel_rfl); (case l18 => first | k_is | exact rfl | kernel_rfl); (case c18 => first | k_is | exact rfl | kernel_rfl); (case k18 => first | k_is | exact rfl | kernel_rfl); (case a19 => first | k_is | exact rfl | kernel_rfl); (case l19 => first | k_is | exact rfl | kernel_rfl); (case c19 => first | k_is | exact rfl | kernel_rfl); (case k19 => first | k_is | exact rfl | kernel_rfl); (case a20 => first | k_is | exact rfl | kernel_rfl); (case l20 => first | k_is | exact rfl | kernel_rfl); (case c20 => first | k_is | exact rfl | kernel_rfl); (case k20 => first | k_is | exact rfl | kernel_rfl); (case a21 => first | k_is | exact rfl | kernel_rfl); (case l21 => first | k_is | exact rfl | kernel_rfl); (case c21 => first | k_is | exact rfl | kernel_rfl); (case k21 => first | k_is | exact rfl | kernel_rfl); (case a22 => first | k_is | exact rfl | kernel_rfl); (case l22 => first | k_is | exact rfl | kernel_rfl); (case c22 => first | k_is | exact rfl | kernel_rfl); (case k22 => first | k_is | exact rfl | kernel_rfl); (case a23 => first | k_is | exact rfl | kernel_rfl); (case l23 => first | k_is | exact rfl | kernel_rfl); (case c23 => first | k_is | exact rfl | kernel_rfl); (case k23 => first | k_is | exact rfl | kernel_rfl); (case a24 => first | k_is | exact rfl | kernel_rfl); (case l24 => first | k_is | exact rfl | kernel_rfl); (case c24 => first | k_is | exact rfl | kernel_rfl); (case k24 => first | k_is | exact rfl | kernel_rfl); (case a25 => first | k_is | exact rfl | kernel_rfl); (case l25 => first | k_is | exact rfl | kernel_rfl); (case c25 => first | k_is | exact rfl | kernel_rfl); (case k25 => first | k_is | exact rfl | kernel_rfl); (case a26 => first | k_is | exact rfl | kernel_rfl); (case l26 => first | k_is | exact rfl | kernel_rfl); (case c26 => first | k_is | exact rfl | kernel_rfl); (case k26 => first | k_is | exact rfl | kernel_rfl); (case lk24 => first | k_is | exact rfl | kernel_rfl); (case vl24 => first | k_is | exact rfl | kernel_rfl); (case hd24 => first | k_is | exact rfl | kernel_rfl); (case ot24 => first | k_is | exact rfl | kernel_rfl); (case lk25 => first | k_is | exact rfl | kernel_rfl); (case vl25 => first | k_is | exact rfl | kernel_rfl); (case hd25 => first | k_is | exact rfl | kernel_rfl); (case ot25 => first | k_is | exact rfl | kernel_rfl); (case lk26 => first | k_is | exact rfl | kernel_rfl); (case vl26 => first | k_is | exact rfl | kernel_rfl); (case hd26 => first | k_is | exact rfl | kernel_rfl); (case ot26 => first | k_is | exact rfl | kernel_rfl); (case z0 => first | k_is | exact rfl | kernel_rfl); (case z1 => first | k_is | exact rfl | kernel_rfl); (case z2 => first | k_is | exact rfl | kernel_rfl); (case z3 => first | k_is | exact rfl | kernel_rfl); (case z4 => first | k_is | exact rfl | kernel_rfl); (case z5 => first | k_is | exact rfl | kernel_rfl); (case z6 => first | k_is | exact rfl | kernel_rfl); (case z7 => first | k_is | exact rfl | kernel_rfl); (case z8 => first | k_is | exact rfl | kernel_rfl); (case z9 => first | k_is | exact rfl | kernel_rfl); (case z10 => first | k_is | exact rfl | kernel_rfl); (case y0 => first | k_is | exact rfl | kernel_rfl); (case yl0 => first | k_is | exact rfl | kernel_rfl); (case y1 => first | k_is | exact rfl | kernel_rfl); (case yl1 => first | k_is | exact rfl | kernel_rfl); (case sup => first | k_is | exact rfl | kernel_rfl); (case opq => first | k_is | exact rfl | kernel_rfl); (case spc => first | k_is | exact rfl | kernel_rfl); (case tks => first | k_is | exact rfl | kernel_rfl); (case E0x => first | k_is | exact rfl | kernel_rfl); (case E0lC => first | k_is | exact rfl | kernel_rfl); (case E0hb => first | k_is | exact rfl | kernel_rfl); (case E0sa => first | k_is | exact rfl | kernel_rfl); (case E0ex => first | k_is | exact rfl | kernel_rfl); (case E0ty => first | k_is | exact rfl | kernel_rfl); (case E0kc => first | k_is | exact rfl | kernel_rfl); (case E0iC => first | k_is | exact rfl | kernel_rfl); (case E0tI => first | k_is | exact rfl | kernel_rfl); (case E0lk => first | k_is | exact rfl | kernel_rfl); (case E0co => first | k_is | exact rfl | kernel_rfl); (case E0lc => first | k_is | exact rfl | kernel_rfl); (case E0fi => first | k_is | exact rfl | kernel_rfl); (case E0ce => first | k_is | exact rfl | kernel_rfl); (case E0cl => first | k_is | exact rfl | kernel_rfl); (case E0mr => first | k_is | exact rfl | kernel_rfl); (case E0al => first | k_is | exact rfl | kernel_rfl); (case E0va => first | k_is | exact rfl | kernel_rfl); (case E0nword => first | k_is | exact rfl | kernel_rfl); (case E0ga => first | k_is | exact rfl | kernel_rfl); (case E0gk => first | k_is | exact rfl | kernel_rfl); (case E0hd => first | k_is | exact rfl | kernel_rfl); (case E0ha => first | k_is | exact rfl | kernel_rfl); (case E0hm => first | k_is | exact rfl | kernel_rfl); (case E1x => first | k_is | exact rfl | kernel_rfl); (case E1lC => first | k_is | exact rfl | kernel_rfl); (case E1hb => first | k_is | exact rfl | kernel_rfl); (case E1sa => first | k_is | exact rfl | kernel_rfl); (case E1ex => first | k_is | exact rfl | kernel_rfl); (case E1ty => first | k_is | exact rfl | kernel_rfl); (case E1kc => first | k_is | exact rfl | kernel_rfl); (case E1iC => first | k_is | exact rfl | kernel_rfl); (case E1tI => first | k_is | exact rfl | kernel_rfl); (case E1lk => first | k_is | exact rfl | kernel_rfl); (case E1co => first | k_is | exact rfl | kernel_rfl); (case E1lc => first | k_is | exact rfl | kernel_rfl); (case E1fi => first | k_is | exact rfl | kernel_rfl); (case E1ce => first | k_is | exact rfl | kernel_rfl); (case E1cl => first | k_is | exact rfl | kernel_rfl); (case E1mr => first | k_is | exact rfl | kernel_rfl); (case E1al => first | k_is | exact rfl | kernel_rfl); (case E1va => first | k_is | exact rfl | kernel_rfl); (case E1nword => first | k_is | exact rfl | kernel_rfl); (case E1ga => first | k_is | exact rfl | kernel_rfl); (case E1gk => first | k_is | exact rfl | kernel_rfl); (case E1hd => first | k_is | exact rfl | kernel_rfl); (case E1ha => first | k_is | exact rfl | kernel_rfl); (case E1hm => first | k_is | exact rfl | kernel_rfl); (case X0s0 => first | k_is | exact rfl | kernel_rfl); (case X0k0 => first | k_is | exact rfl | kernel_rfl); (case X0s1 => first | k_is | exact rfl | kernel_rfl); (case X0k1 => first | k_is | exact rfl | kernel_rfl); (case X1x => first | k_is | exact rfl | kernel_rfl); (case X1ex => first | k_is | exact rfl | kernel_rfl); (case X1hd => first | k_is | exact rfl | kernel_rfl); (case X1ty => first | k_is | exact rfl | kernel_rfl); (case X1s0 => first | k_is | exact rfl | kernel_rfl); (case X1k0 => first | k_is | exact rfl | kernel_rfl); (case X1s1 => first | k_is | exact rfl | kernel_rfl); (case X1k1 => first | k_is | exact rfl | kernel_rfl); (case X2s0 => first | k_is | exact rfl | kernel_rfl); (case X2k0 => first | k_is | exact rfl | kernel_rfl); (case X2s1 => first | k_is | exact rfl | kernel_rfl); (case X2k1 => first | k_is | exact rfl | kernel_rfl); (case rc24 => exact ⟨_, rfl⟩); (case rc25 => exact ⟨_, rfl⟩); (case rc26 => exact ⟨_, rfl⟩); (case nd => decide)
end
