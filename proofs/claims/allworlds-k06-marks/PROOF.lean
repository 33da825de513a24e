import PyProof.Rows.All
import HandS.ForMost
import HandS.Exc
import HandS.TupAny
import HandS.TupMul
import HandS.Wide
import HandS.Evl
import HandS.Zip
import HandS.Style
import KE.DataEq
import KE.DataAny
import KE.DataIsa
import KE.SortData
import PyProof.TupleOfSeq
import HandS.Lambda
import KE.KRevSl
import KE.GoesNew
import KE.GoesMore
import KE.GoesEnum
import HandS.Ends
import HandS.Words
import HandS.ForList
import HandS.TupSets
import HandS.SetFor
import PyProof.ListNew
import HandS.Strs
import PySem.Challenge.RW_allworlds_k06_marks_cut_and_joined
import PyProof.ReprLen

section
set_option linter.all false
namespace Ev
open PySem
theorem andI {a b : Bool} : ((a && b) = true) = (a = true ∧ b = true) := Bool.and_eq_true a b
theorem decI {p : Prop} [Decidable p] : (decide p = true) = p := decide_eq_true_eq

inductive D where
  | non | bl (b : Bool) | int (i : Int) | str (s : Str)
  | tup (xs : List D) | lst (xs : List D)
  | ref (k : Nat)
  deriving Inhabited

inductive Sl where
  | none | val (d : D) | own (d : D) | bor (d : D)

abbrev Env := List Sl
abbrev Heap := List (List D)

inductive Out (α : Type) where
  | ok (a : α) (h : Heap)
  | err (c : Nat) (fs : List D) (h : Heap)
abbrev R (α : Type) := Option (Out α)
def R.bind {α β : Type} (x : R α) (f : α → Heap → R β) : R β :=
  match x with
  | none => none
  | some (.ok a h) => f a h
  | some (.err c fs h) => some (.err c fs h)
@[reducible] def rok {α : Type} (a : α) (h : Heap) : R α := some (.ok a h)
@[simp] theorem R.bind_none {α β : Type} (f : α → Heap → R β) : R.bind none f = none := rfl
@[simp] theorem R.bind_ok {α β : Type} (a : α) (h : Heap) (f : α → Heap → R β) : R.bind (some (.ok a h)) f = f a h := rfl
@[simp] theorem R.bind_err {α β : Type} (c : Nat) (fs : List D) (h : Heap) (f : α → Heap → R β) : R.bind (some (.err c fs h)) f = some (.err c fs h) := rfl

inductive Op1 where
  | neg | not | len | tuple | list | sorted | sum | any | all | abs | int | repr | max | min | range | rev | isTup | isInt | isStr | isBool | sset
  deriving DecidableEq, Repr
inductive Op2 where
  | add | sub | mul | fdiv | mod | pow
  | eq | ne | lt | le | gt | ge | inn | nin | is | isnot
  | ix | range | max | min | sfrom | sto | join
  deriving DecidableEq, Repr
inductive Op3 where
  | slice | range
  deriving DecidableEq, Repr

inductive Tg where
  | name (i : Nat)
  | tup (ts : List Tg)

inductive E where
  | cst (d : D)
  | var (i : Nat)
  | view (i : Nat)
  | peek (i : Nat)
  | tup (es : List E)
  | lst (es : List E)
  | cell (a : E)
  | op1 (o : Op1) (a : E)
  | op2 (o : Op2) (a b : E)
  | op3 (o : Op3) (a b c : E)
  | chain (o p : Op2) (a b c : E)
  | and (a b : E)
  | or (a b : E)
  | ite (t a b : E)
  | call (f : Nat) (es : List E)
  | callK (f : Nat) (perm : List Nat) (es : List E)
  | lc (elt : E) (tg : Tg) (it : E) (cnd : List E)
  | lc2 (elt : E) (tg : Tg) (it : E) (cnd : List E) (tg2 : Tg) (it2 : E) (cnd2 : List E)
  | pop (b : E)
  | enm (a : E)
  | zip (a b : E)

inductive S where
  | asg (tg : Tg) (e : E)
  | par (ts : List (Bool × Nat)) (es : List E)
  | frz (i : Nat)
  | aug (i : Nat) (o : Op2) (e : E)
  | app (i : Nat) (e : E)
  | boxApp (b e : E)
  | boxSet (b i e : E)
  | setO (i : Nat) (j e : E)
  | ex (e : E)
  | ifs (t : E) (a b : List S)
  | whil (t : E) (b : List S)
  | for (tg : Tg) (it : E) (b : List S)
  | ret (e : E)
  | brk | cont | pass

def Sl.get : Option Sl → Option D
  | some (Sl.val d) => some d
  | _ => Option.none
def Sl.see : Option Sl → Option D
  | some (Sl.val d) => some d
  | some (Sl.own d) => some d
  | some (Sl.bor d) => some d
  | _ => Option.none
def Sl.peek : Option Sl → Option D
  | some (Sl.val d) => some d
  | some (Sl.bor d) => some d
  | _ => Option.none
def deref (h : Heap) : D → Option D
  | .ref k => (h[k]?).map .lst
  | d => some d

def isOwnSl : Option Sl → Bool
  | some (.own _) => true
  | _ => false
mutual
def Tg.slots : Tg → List Nat
  | .name i => [i]
  | .tup ts => Tg.slotss ts
def Tg.slotss : List Tg → List Nat
  | [] => []
  | t :: ts => Tg.slots t ++ Tg.slotss ts
end
/-- the slots are made empty, if none is an own list -/
def clear (env : Env) : List Nat → Option Env
  | [] => some env
  | i :: is => if isOwnSl env[i]? then none else clear (env.set i .none) is
mutual
def setTg : Tg → D → Env → Option Env
  | .name i, d, env => if isOwnSl env[i]? then none else some (env.set i (.val d))
  | .tup ts, .tup ds, env => setTgs ts ds env
  | .tup _, _, _ => none
def setTgs : List Tg → List D → Env → Option Env
  | [], [], env => some env
  | t :: ts, d :: ds, env => (setTg t d env).bind (setTgs ts ds)
  | _, _, _ => none
end

/-- several slots at once; true: the slot is to own the list -/
def setPar : List (Bool × Nat) → List D → Env → Option Env
  | [], [], env => some env
  | (false, i) :: ts, d :: ds, env => if isOwnSl env[i]? then none else setPar ts ds (env.set i (.val d))
  | (true, i) :: ts, .lst xs :: ds, env => if i < env.length then setPar ts ds (env.set i (.own (.lst xs))) else none
  | _, _, _ => none

def compLoop {α : Type} (f : D → Heap → R (List α)) : List D → Heap → R (List α)
  | [], h => rok [] h
  | x :: xs, h => R.bind (f x h) fun o h => R.bind (compLoop f xs h) fun ys h => rok (o ++ ys) h

inductive Flow where
  | nx (env : Env) | brk (env : Env) | cont (env : Env) | ret (d : D)

def forLoop (f : D → Env → Heap → R Flow) : List D → Env → Heap → R Flow
  | [], env, h => rok (.nx env) h
  | x :: xs, env, h => R.bind (f x env h) fun fl h => match fl with
    | .nx env => forLoop f xs env h
    | .cont env => forLoop f xs env h
    | .brk env => rok (.nx env) h
    | .ret d => rok (.ret d) h

def loopW (f : Env → Heap → R (Sum Env Flow)) (env : Env) (h : Heap) : R Flow :=
  match f env h with
  | none => none
  | some (.err c fs h) => some (.err c fs h)
  | some (.ok (.inr fl) h) => some (.ok fl h)
  | some (.ok (.inl env) h) => loopW f env h
partial_fixpoint

/-! ### operations on values -/
def LIM : Nat := 16777216
mutual
def D.eqv : D → D → Bool
  | .non, .non => true
  | .bl a, .bl b => a == b
  | .bl a, .int j => (if a then 1 else 0) == j
  | .int i, .bl b => i == (if b then 1 else 0)
  | .int i, .int j => i == j
  | .str x, .str y => x == y
  | .lst xs, .lst ys => D.eqvs xs ys
  | .tup xs, .tup ys => D.eqvs xs ys
  | _, _ => false
def D.eqvs : List D → List D → Bool
  | [], [] => true
  | x :: xs, y :: ys => D.eqv x y && D.eqvs xs ys
  | _, _ => false
end
mutual
/-- no cell within -/
def D.plain : D → Bool
  | .non | .bl _ | .int _ | .str _ => true
  | .tup xs | .lst xs => D.plains xs
  | .ref _ => false
def D.plains : List D → Bool
  | [] => true
  | x :: xs => D.plain x && D.plains xs
end
mutual
def D.depth : D → Nat
  | .tup xs | .lst xs => D.depths xs + 1
  | .non | .bl _ | .int _ | .str _ | .ref _ => 0
def D.depths : List D → Nat
  | [] => 0
  | x :: xs => max (D.depth x) (D.depths xs)
end
/-- two values may be compared by == -/
def cmpOk (x y : D) : Bool := D.plain x && D.plain y && decide (min (D.depth x) (D.depth y) ≤ 64)
def allCmp (x : D) (ys : List D) : Bool := ys.all fun y => cmpOk y x

def ixN (len : Nat) (j : Int) : Option Nat :=
  if 0 ≤ j then (if j < len then some j.toNat else none)
  else if -(len : Int) ≤ j then some (j + len).toNat else none
def atI {α : Type} (l : List α) (i : Int) : Option α := (ixN l.length i).bind fun j => l[j]?
def sIx (len dflt : Nat) : Option Int → Nat
  | none => dflt
  | some k => if k < 0 then (k + (len : Int)).toNat else min k.toNat len
def cut {α : Type} (xs : List α) (lo hi : Option Int) : List α := (xs.drop (sIx xs.length 0 lo)).take (sIx xs.length xs.length hi - sIx xs.length 0 lo)
def cutStr (s : Str) (lo hi : Option Int) : Str := ⟨(cut s.cps.toList lo hi).toArray⟩
def mulOk (i j : Int) : Bool := decide (i.natAbs < 2 ^ 64) || decide (j.natAbs < 2 ^ 64) || decide (i.natAbs.log2 + j.natAbs.log2 < 1000000)
def rangeD (a c : Int) (n : Nat) : List D := (List.range n).map fun (k : Nat) => D.int (a + (k : Int) * c)
def small62 (a : Int) : Bool := decide (-(2 ^ 62) ≤ a) && decide (a < 2 ^ 62)
def ints? : List D → Option (List Int)
  | [] => some []
  | .int i :: r => (ints? r).map (i :: ·)
  | _ :: _ => none
/-- ints in a tuple; tuples of ints -/
def keyI : D → Option (List Int)
  | .tup ds => ints? ds
  | _ => none
def keys? : List D → Option (List (List Int))
  | [] => some []
  | d :: ds => (keyI d).bind fun k => (keys? ds).map (k :: ·)
/-- each once -/
def dd {α : Type} [DecidableEq α] : List α → List α
  | [] => []
  | x :: xs => if x ∈ xs then dd xs else x :: dd xs
def leI (a b : List Int) : Bool := !decide (b < a)
def tupD (k : List Int) : D := .tup (k.map .int)
/-- sorted(set(..)) -/
def uniL (ds : List D) : Option (List D) := if ds.length < 64 then (match ints? ds with
  | some is => some (((dd is).mergeSort fun a b => decide (a ≤ b)).map .int)
  | none => (keys? ds).map fun ks => ((dd ks).mergeSort leI).map tupD) else none
def bls? : List D → Option (List Bool)
  | [] => some []
  | .bl i :: r => (bls? r).map (i :: ·)
  | _ :: _ => none
def strs? : List D → Option (List Str)
  | [] => some []
  | .str i :: r => (strs? r).map (i :: ·)
  | _ :: _ => none
def items? : D → Option (List D)
  | .tup xs => some xs
  | .lst xs => some xs
  | _ => none

def D.isNon : D → Bool | .non => true | _ => false
def D.isTup : D → Bool | .tup _ => true | _ => false
def D.isInt : D → Bool | .int _ => true | .bl _ => true | _ => false
def D.isStr : D → Bool | .str _ => true | _ => false
def D.isBool : D → Bool | .bl _ => true | _ => false
def zipD (xs ys : List D) : List D := xs.zipWith (fun x y => D.tup [x, y]) ys
def enumD : Nat → List D → List D
  | _, [] => []
  | n, x :: xs => D.tup [.int n, x] :: enumD (n + 1) xs
def strD (s : Str) : List D := s.cps.toList.map fun c => D.str ⟨#[c]⟩
/-- the items that are walked -/
def walk? : D → Option (List D)
  | .tup xs => some xs
  | .lst xs => some xs
  | .str s => if s.cps.size ≤ LIM then some (strD s) else none
  | _ => none
def repOk (n : Nat) (k : Int) : Bool := decide (n ≤ 1000) && decide (k ≤ 1000) && decide (-1000 ≤ k)
def leInt (a b : Int) : Bool := decide (a ≤ b)
def inStr (x y : Str) : Bool := !(Builtin.Str.occurrences y x 0 y.length 1).isEmpty

/-- what repr writes is not needed: a text that is a function of the value, if it can be written -/
structure ReprF where
  text : D → Str
  ok : D → Bool
  srt : List D → Option (List D)
  uni : List D → Option (List D)

/-- a slice with a step of one -/
def slD (lo hi : Option Int) : D → Option D
  | .lst xs => some (.lst (cut xs lo hi))
  | .tup xs => some (.tup (cut xs lo hi))
  | .str s => if s.cps.size ≤ LIM then some (.str (cutStr s lo hi)) else none
  | _ => none
def o1 (F : ReprF) : Op1 → D → Option D
  | .neg, .int i => some (.int (-i))
  | .not, .bl b => some (.bl (!b))
  | .len, .lst xs => some (.int xs.length)
  | .len, .tup xs => some (.int xs.length)
  | .len, .str s => if s.cps.size ≤ LIM then some (.int s.cps.size) else none
  | .tuple, .lst xs => some (.tup xs)
  | .tuple, .tup xs => some (.tup xs)
  | .list, .lst xs => some (.lst xs)
  | .list, .tup xs => some (.lst xs)
  | .sorted, .lst xs => (F.srt xs).map .lst
  | .sorted, .tup xs => (F.srt xs).map .lst
  | .sset, .lst xs => (F.uni xs).map .lst
  | .sset, .tup xs => (F.uni xs).map .lst
  | .sum, .lst xs => (ints? xs).map fun is => .int is.sum
  | .any, .lst xs => (bls? xs).map fun bs => .bl (bs.any id)
  | .all, .lst xs => (bls? xs).map fun bs => .bl (bs.all id)
  | .abs, .int i => some (.int (if i < 0 then -i else i))
  | .int, .int i => some (.int i)
  | .int, .bl b => some (.int (if b then 1 else 0))
  | .repr, d => if D.plain d && F.ok d then some (.str (F.text d)) else none
  | .range, .int n => if small62 n && decide (n ≤ LIM) then some (.lst (rangeD 0 1 n.toNat)) else none
  | .rev, .lst xs => some (.lst xs.reverse)
  | .rev, .tup xs => some (.tup xs.reverse)
  | .isTup, d => if D.plain d then some (.bl d.isTup) else none
  | .isInt, d => if D.plain d then some (.bl d.isInt) else none
  | .isStr, d => if D.plain d then some (.bl d.isStr) else none
  | .isBool, d => if D.plain d then some (.bl d.isBool) else none
  | _, _ => none
def o2 : Op2 → D → D → Option D
  | .add, .int a, .int b => some (.int (a + b))
  | .add, .str a, .str b => if a.cps.size + b.cps.size ≤ LIM then some (.str (a ++ b)) else none
  | .add, .tup a, .tup b => if a.length + b.length ≤ LIM then some (.tup (a ++ b)) else none
  | .add, .lst a, .lst b => if a.length + b.length ≤ LIM then some (.lst (a ++ b)) else none
  | .sub, .int a, .int b => some (.int (a - b))
  | .mul, .int a, .int b => if mulOk a b then some (.int (a * b)) else none
  | .mul, .tup a, .int k => if repOk a.length k then some (.tup (List.replicate k.toNat a).flatten) else none
  | .mul, .str a, .int k => if repOk a.cps.size k then some (.str ⟨(List.replicate k.toNat a.cps.toList).flatten.toArray⟩) else none
  | .fdiv, .int a, .int b => if decide (0 < b) && decide (b.natAbs.log2 < 9000) then some (.int (a / b)) else none
  | .mod, .int a, .int b => if decide (0 < b) then some (.int (a % b)) else none
  | .pow, .int a, .int b => if decide (0 ≤ b) && decide (b ≤ 1000000) && decide (a.natAbs < 2 ^ 64) then some (.int (a ^ b.toNat)) else none
  | .eq, x, y => if cmpOk x y then some (.bl (D.eqv x y)) else none
  | .ne, x, y => if cmpOk x y then some (.bl (!D.eqv x y)) else none
  | .lt, .int a, .int b => some (.bl (decide (a < b)))
  | .le, .int a, .int b => some (.bl (decide (a ≤ b)))
  | .gt, .int a, .int b => some (.bl (decide (b < a)))
  | .ge, .int a, .int b => some (.bl (decide (b ≤ a)))
  | .lt, .str a, .str b => some (.bl (decide (a.cps.toList < b.cps.toList)))
  | .le, .str a, .str b => some (.bl (!decide (b.cps.toList < a.cps.toList)))
  | .inn, x, .lst ys => if D.plain x && D.plains ys && decide (D.depth x ≤ 64) then some (.bl (ys.any fun y => D.eqv y x)) else none
  | .inn, x, .tup ys => if D.plain x && D.plains ys && decide (D.depth x ≤ 64) then some (.bl (ys.any fun y => D.eqv y x)) else none
  | .inn, .str x, .str y => some (.bl (inStr x y))
  | .nin, x, .lst ys => if D.plain x && D.plains ys && decide (D.depth x ≤ 64) then some (.bl (!ys.any fun y => D.eqv y x)) else none
  | .nin, x, .tup ys => if D.plain x && D.plains ys && decide (D.depth x ≤ 64) then some (.bl (!ys.any fun y => D.eqv y x)) else none
  | .nin, .str x, .str y => some (.bl (!inStr x y))
  | .is, x, .non => some (.bl x.isNon)
  | .isnot, x, .non => some (.bl (!x.isNon))
  | .ix, .lst xs, .int i => atI xs i
  | .ix, .tup xs, .int i => atI xs i
  | .ix, .str s, .int i => if s.cps.size ≤ LIM then (atI s.cps.toList i).map fun c => .str ⟨#[c]⟩ else none
  | .range, .int a, .int b => if small62 a && small62 b && decide ((b - a).toNat ≤ LIM) then some (.lst (rangeD a 1 (b - a).toNat)) else none
  | .max, .int a, .int b => some (.int (if b > a then b else a))
  | .min, .int a, .int b => some (.int (if b < a then b else a))
  | .sfrom, x, .int i => slD (some i) none x
  | .sto, x, .int i => slD none (some i) x
  | .join, .str a, .lst ys => (strs? ys).bind fun zs => if (zs.map (·.length)).sum + zs.length * a.length ≤ LIM then some (.str (Str.join a zs)) else none
  | _, _, _ => none
/-- x op= y, the value no list -/
def augOp : Op2 → D → D → Option D
  | .add, .int a, .int b => some (.int (a + b))
  | .mul, .int a, .int b => if mulOk a b then some (.int (a * b)) else none
  | .add, .str a, .str b => if a.cps.size + b.cps.size ≤ LIM then some (.str (a ++ b)) else none
  | _, _, _ => none
/-- how many turns range(a, b, c) has -/
def turns (a b c : Int) : Nat := if 0 < c then (if a < b then ((b - a - 1) / c + 1).toNat else 0) else (if b < a then ((a - b - 1) / (-c) + 1).toNat else 0)
def o3 : Op3 → D → D → D → Option D
  | .slice, x, .int i, .int j => slD (some i) (some j) x
  | .range, .int a, .int b, .int c => if small62 a && small62 b && decide (c ≠ 0) && decide (c.natAbs < 2 ^ 30) && decide (turns a b c ≤ LIM) then some (.lst (rangeD a c (turns a b c))) else none
  | _, _, _, _ => none

/-! ### the evaluator -/
section
variable (F : ReprF) (Γ : Nat → List D → Heap → R D)
def lift (h : Heap) : Option D → R D
  | none => none
  | some d => rok d h
@[simp] theorem lift_none (h : Heap) : lift h none = none := rfl
@[simp] theorem lift_some (h : Heap) (d : D) : lift h (some d) = rok d h := rfl
mutual
def evE : E → Env → Heap → R D
  | .cst d, _, h => rok d h
  | .var i, env, h => lift h (Sl.get env[i]?)
  | .view i, env, h => lift h (Sl.see env[i]?)
  | .peek i, env, h => lift h (Sl.peek env[i]?)
  | .tup es, env, h => R.bind (evEs es env h) fun ds h => rok (.tup ds) h
  | .lst es, env, h => R.bind (evEs es env h) fun ds h => rok (.lst ds) h
  | .cell a, env, h => R.bind (evE a env h) fun d h => match d with
    | .lst xs => rok (.ref h.length) (h ++ [xs])
    | _ => none
  | .op1 o a, env, h => R.bind (evE a env h) fun x h => lift h ((deref h x).bind (o1 F o))
  | .op2 o a b, env, h => R.bind (evE a env h) fun x h => R.bind (evE b env h) fun y h => lift h ((deref h x).bind fun x => (deref h y).bind fun y => o2 o x y)
  | .op3 o a b c, env, h => R.bind (evE a env h) fun x h => R.bind (evE b env h) fun y h => R.bind (evE c env h) fun z h => lift h ((deref h x).bind fun x => o3 o x y z)
  | .chain o p a b c, env, h => R.bind (evE a env h) fun x h => R.bind (evE b env h) fun y h => R.bind (lift h (o2 o x y)) fun r h => match r with
    | .bl true => R.bind (evE c env h) fun z h => lift h (o2 p y z)
    | .bl false => rok (.bl false) h
    | _ => none
  | .and a b, env, h => R.bind (evE a env h) fun x h => match x with
    | .bl true => evE b env h
    | .bl false => rok (.bl false) h
    | _ => none
  | .or a b, env, h => R.bind (evE a env h) fun x h => match x with
    | .bl false => evE b env h
    | .bl true => rok (.bl true) h
    | _ => none
  | .ite t a b, env, h => R.bind (evE t env h) fun x h => match x with
    | .bl true => evE a env h
    | .bl false => evE b env h
    | _ => none
  | .call f es, env, h => R.bind (evEs es env h) fun ds h => Γ f ds h
  | .callK f perm es, env, h => R.bind (evEs es env h) fun ds h => match perm.mapM (ds[·]?) with
    | some ds => Γ f ds h
    | none => none
  | .lc elt tg it cnd, env, h => R.bind (evE it env h) fun s h => match walk? s with
    | some xs => R.bind (compLoop (fun x h => match (clear env tg.slots).bind (setTg tg x) with
        | none => none
        | some env => R.bind (evC cnd env h) fun b h => if b then R.bind (evE elt env h) fun y h => rok [y] h else rok [] h) xs h) fun ys h => rok (.lst ys) h
    | none => none
  | .lc2 elt tg it cnd tg2 it2 cnd2, env, h => R.bind (evE it env h) fun s h => match walk? s with
    | some xs => R.bind (compLoop (fun x h => match (clear env (tg.slots ++ tg2.slots)).bind (setTg tg x) with
        | none => none
        | some env => R.bind (evC cnd env h) fun b h => if b then R.bind (evE it2 env h) fun s h => match walk? s with
          | some xs => compLoop (fun x h => match (clear env tg2.slots).bind (setTg tg2 x) with
              | none => none
              | some env => R.bind (evC cnd2 env h) fun b h => if b then R.bind (evE elt env h) fun y h => rok [y] h else rok [] h) xs h
          | none => none
          else rok [] h) xs h) fun ys h => if ys.length ≤ LIM then rok (.lst ys) h else none
    | none => none
  | .enm a, env, h => R.bind (evE a env h) fun x h => lift h ((items? x).map fun xs => .lst (enumD 0 xs))
  | .zip a b, env, h => R.bind (evE a env h) fun x h => R.bind (evE b env h) fun y h => lift h ((items? x).bind fun xs => (items? y).bind fun ys => some (.lst (zipD xs ys)))
  | .pop b, env, h => R.bind (evE b env h) fun x h => match x with
    | .ref k => match h[k]? with
      | some xs => match xs.getLast? with
        | some y => rok y (h.set k xs.dropLast)
        | none => none
      | none => none
    | _ => none
def evEs : List E → Env → Heap → R (List D)
  | [], _, h => rok [] h
  | e :: es, env, h => R.bind (evE e env h) fun d h => R.bind (evEs es env h) fun ds h => rok (d :: ds) h
def evC : List E → Env → Heap → R Bool
  | [], _, h => rok true h
  | e :: es, env, h => R.bind (evE e env h) fun d h => match d with
    | .bl true => evC es env h
    | .bl false => rok false h
    | _ => none
end
mutual
def evS : S → Env → Heap → R Flow
  | .asg tg e, env, h => R.bind (evE F Γ e env h) fun d h => match setTg tg d env with
    | some env => rok (.nx env) h
    | none => none
  | .par ts es, env, h => R.bind (evEs F Γ es env h) fun ds h => match setPar ts ds env with
    | some env => rok (.nx env) h
    | none => none
  | .frz i, env, h => match env[i]? with
    | some (.own d) => rok (.nx (env.set i (.val d))) h
    | _ => none
  | .aug i o e, env, h => match Sl.get env[i]? with
    | some x => R.bind (evE F Γ e env h) fun y h => R.bind (lift h (augOp o x y)) fun z h => rok (.nx (env.set i (.val z))) h
    | none => none
  | .app i e, env, h => R.bind (evE F Γ e env h) fun d h => match env[i]? with
    | some (.own (.lst xs)) => if xs.length < LIM then rok (.nx (env.set i (.own (.lst (xs ++ [d]))))) h else none
    | _ => none
  | .boxApp b e, env, h => R.bind (evE F Γ b env h) fun x h => R.bind (evE F Γ e env h) fun d h => match x with
    | .ref k => match h[k]? with
      | some xs => if xs.length < LIM then rok (.nx env) (h.set k (xs ++ [d])) else none
      | none => none
    | _ => none
  | .boxSet b i e, env, h => R.bind (evE F Γ e env h) fun d h => R.bind (evE F Γ b env h) fun x h => R.bind (evE F Γ i env h) fun j h => match x, j with
    | .ref k, .int j => match h[k]? with
      | some xs => match ixN xs.length j with
        | some j => rok (.nx env) (h.set k (xs.set j d))
        | none => none
      | none => none
    | _, _ => none
  | .setO i j e, env, h => R.bind (evE F Γ e env h) fun d h => R.bind (evE F Γ j env h) fun k h => match env[i]?, k with
    | some (.own (.lst xs)), .int k => match ixN xs.length k with
      | some n => rok (.nx (env.set i (.own (.lst (xs.set n d))))) h
      | none => none
    | _, _ => none
  | .ex e, env, h => R.bind (evE F Γ e env h) fun _ h => rok (.nx env) h
  | .ifs t a b, env, h => R.bind (evE F Γ t env h) fun x h => match x with
    | .bl true => evSs a env h
    | .bl false => evSs b env h
    | _ => none
  | .whil t b, env, h => loopW (fun env h => R.bind (evE F Γ t env h) fun x h => match x with
    | .bl true => R.bind (evSs b env h) fun fl h => match fl with
      | .nx env => rok (.inl env) h
      | .cont env => rok (.inl env) h
      | .brk env => rok (.inr (.nx env)) h
      | .ret d => rok (.inr (.ret d)) h
    | .bl false => rok (.inr (.nx env)) h
    | _ => none) env h
  | .for tg it b, env, h => R.bind (evE F Γ it env h) fun s h => match walk? s with
    | some xs => forLoop (fun x env h => match setTg tg x env with
        | some env => evSs b env h
        | none => none) xs env h
    | none => none
  | .ret e, env, h => R.bind (evE F Γ e env h) fun d h => rok (.ret d) h
  | .brk, env, h => rok (.brk env) h
  | .cont, env, h => rok (.cont env) h
  | .pass, env, h => rok (.nx env) h
def evSs : List S → Env → Heap → R Flow
  | [], env, h => rok (.nx env) h
  | s :: ss, env, h => R.bind (evS s env h) fun fl h => match fl with
    | .nx env => evSs ss env h
    | fl => rok fl h
end
/-- a def: how many slots, the parameters' modes (true: a list comes as a borrowed one), the body -/
structure Fn where
  slots : Nat
  modes : List Bool
  body : List S
def param (m : Bool) (d : D) : Sl := match m, d with
  | true, .lst xs => .bor (.lst xs)
  | _, d => .val d
def startEnv (f : Fn) (ds : List D) : Env := List.zipWith param f.modes ds ++ List.replicate (f.slots - ds.length) Sl.none
def evFn (f : Fn) (ds : List D) (h : Heap) : R D :=
  if ds.length = f.modes.length then R.bind (evSs F Γ f.body (startEnv f ds) h) fun fl h => match fl with
    | .nx _ => rok .non h
    | .ret d => rok d h
    | _ => none
  else none
end
def tab (L : List (List D → Heap → R D)) (n : Nat) : List D → Heap → R D := L.getD n fun _ _ => none
end Ev
end

section
set_option Elab.async false
set_option linter.all false
set_option maxRecDepth 100000
namespace Ev
open PySem L2

/-! ### what a value of the evaluator stands for -/
section
variable (K : PySem.W.Frag) (Fb : Addr → Prop) (m : List Addr) (H : Hp)
mutual
inductive Rep : V → D → Prop
  | non : Rep .non .non
  | bl (b : Bool) : Rep (.bl b) (.bl b)
  | int (i : Int) : Rep (.int i) (.int i)
  | str (s : Str) : Rep (.str s) (.str s)
  | tup {a : Addr} {vs : List V} {ds : List D} : SqT K H a vs → RepL vs ds → Rep (.ref a) (.tup ds)
  | lst {a : Addr} {vs : List V} {ds : List D} : H a = some (.lst vs) → ¬ Fb a → RepL vs ds → Rep (.ref a) (.lst ds)
  | ref {a : Addr} {k : Nat} : m[k]? = some a → Rep (.ref a) (.ref k)
inductive RepL : List V → List D → Prop
  | nil : RepL [] []
  | cons {v : V} {vs : List V} {d : D} {ds : List D} : Rep v d → RepL vs ds → RepL (v :: vs) (d :: ds)
end
/-- .. as it is seen for a moment: the outermost list may be one that changes -/
inductive RepV : V → D → Prop
  | of {v : V} {d : D} : Rep K Fb m H v d → RepV v d
  | lst {a : Addr} {vs : List V} {ds : List D} : SqL K H a vs → RepL K Fb m H vs ds → RepV (.ref a) (.lst ds)
end
section
variable {K : PySem.W.Frag} {Fb Fb' : Addr → Prop} {m m' : List Addr} {H H' : Hp}
theorem RepL.length : ∀ {vs : List V} {ds : List D}, RepL K Fb m H vs ds → vs.length = ds.length
  | _, _, .nil => rfl
  | _, _, .cons _ r => congrArg (· + 1) (RepL.length r)
mutual
theorem Rep.move (hT : ∀ a vs, SqT K H a vs → SqT K H' a vs) (hL : ∀ a vs, H a = some (.lst vs) → ¬ Fb a → H' a = some (.lst vs) ∧ ¬ Fb' a) (hm : ∀ (k : Nat) (a : Addr), m[k]? = some a → m'[k]? = some a) :
    ∀ {v : V} {d : D}, Rep K Fb m H v d → Rep K Fb' m' H' v d
  | _, _, .non => .non
  | _, _, .bl b => .bl b
  | _, _, .int b => .int b
  | _, _, .str b => .str b
  | _, _, .tup h r => .tup (hT _ _ h) (RepL.move hT hL hm r)
  | _, _, .lst h n r => .lst (hL _ _ h n).1 (hL _ _ h n).2 (RepL.move hT hL hm r)
  | _, _, .ref h => .ref (hm _ _ h)
theorem RepL.move (hT : ∀ a vs, SqT K H a vs → SqT K H' a vs) (hL : ∀ a vs, H a = some (.lst vs) → ¬ Fb a → H' a = some (.lst vs) ∧ ¬ Fb' a) (hm : ∀ (k : Nat) (a : Addr), m[k]? = some a → m'[k]? = some a) :
    ∀ {vs : List V} {ds : List D}, RepL K Fb m H vs ds → RepL K Fb' m' H' vs ds
  | _, _, .nil => .nil
  | _, _, .cons h r => .cons (Rep.move hT hL hm h) (RepL.move hT hL hm r)
end
abbrev Ext (H H' : Hp) : Prop := Evl.Ex H H'
theorem Rep.ext (e : Ext H H') {v : V} {d : D} (r : Rep K Fb m H v d) : Rep K Fb m H' v d := r.move (fun _ _ h => Evl.ex_t e h) (fun a vs h n => ⟨e a _ h, n⟩) fun _ _ h => h
theorem RepL.ext (e : Ext H H') {v : List V} {d : List D} (r : RepL K Fb m H v d) : RepL K Fb m H' v d := r.move (fun _ _ h => Evl.ex_t e h) (fun a vs h n => ⟨e a _ h, n⟩) fun _ _ h => h
theorem RepV.ext (e : Ext H H') {v : V} {d : D} (r : RepV K Fb m H v d) : RepV K Fb m H' v d := by
  cases r with
  | of r => exact .of (r.ext e)
  | lst h r => exact .lst (Evl.ex_l e h) (r.ext e)
theorem RepL.get : ∀ {vs : List V} {ds : List D} {i : Nat} {d : D}, RepL K Fb m H vs ds → ds[i]? = some d → ∃ v, vs[i]? = some v ∧ Rep K Fb m H v d
  | _, _, _, _, .nil, e0 => by simp at e0
  | _, _, 0, _, .cons r _, e => ⟨_, rfl, by simp at e; subst e; exact r⟩
  | _, _, i + 1, _, .cons _ t, e => by
    obtain ⟨v, h1, h2⟩ := RepL.get (i := i) t (by simpa using e)
    exact ⟨v, by simpa using h1, h2⟩
theorem RepL.getV : ∀ {vs : List V} {ds : List D} {i : Nat} {v : V}, RepL K Fb m H vs ds → vs[i]? = some v → ∃ d, ds[i]? = some d ∧ Rep K Fb m H v d
  | _, _, _, _, .nil, e0 => by simp at e0
  | _, _, 0, _, .cons r _, e => ⟨_, rfl, by simp at e; subst e; exact r⟩
  | _, _, i + 1, _, .cons _ t, e => by
    obtain ⟨v, h1, h2⟩ := RepL.getV (i := i) t (by simpa using e)
    exact ⟨v, by simpa using h1, h2⟩
theorem RepL.append : ∀ {vs ws : List V} {ds es : List D}, RepL K Fb m H vs ds → RepL K Fb m H ws es → RepL K Fb m H (vs ++ ws) (ds ++ es)
  | _, _, _, _, .nil, s => s
  | _, _, _, _, .cons h r, s => .cons h (RepL.append r s)
theorem RepL.take : ∀ {vs : List V} {ds : List D} (n : Nat), RepL K Fb m H vs ds → RepL K Fb m H (vs.take n) (ds.take n)
  | _, _, 0, _ => .nil
  | _, _, _ + 1, .nil => .nil
  | _, _, n + 1, .cons h r => .cons h (RepL.take n r)
theorem RepL.drop : ∀ {vs : List V} {ds : List D} (n : Nat), RepL K Fb m H vs ds → RepL K Fb m H (vs.drop n) (ds.drop n)
  | _, _, 0, r => r
  | _, _, _ + 1, .nil => .nil
  | _, _, n + 1, .cons _ r => RepL.drop n r
theorem RepL.reverse {vs : List V} {ds : List D} (h : RepL K Fb m H vs ds) : RepL K Fb m H vs.reverse ds.reverse := by
  induction ds generalizing vs with
  | nil => cases h; exact .nil
  | cons d ds ih =>
    cases h with
    | cons h r =>
      rw [List.reverse_cons,
      List.reverse_cons]
      exact (ih r).append (.cons h .nil)
theorem RepL.rep {vs : List V} {ds : List D} (h : RepL K Fb m H vs ds) : ∀ n : Nat, RepL K Fb m H (List.replicate n vs).flatten (List.replicate n ds).flatten
  | 0 => .nil
  | n + 1 => by
    rw [List.replicate_succ, List.flatten_cons, List.replicate_succ, List.flatten_cons]
    exact h.append (RepL.rep h n)
theorem RepL.set : ∀ {vs : List V} {ds : List D} {v : V} {d : D} (n : Nat), RepL K Fb m H vs ds → Rep K Fb m H v d → RepL K Fb m H (vs.set n v) (ds.set n d)
  | _, _, _, _, _, .nil, _ => .nil
  | _, _, _, _, 0, .cons _ r, q => .cons q r
  | _, _, _, _, n + 1, .cons h r, q => .cons h (RepL.set n r q)
theorem RepL.cut {vs : List V} {ds : List D} (h : RepL K Fb m H vs ds) (lo hi : Option Int) : RepL K Fb m H (cutV vs lo hi) (cut ds lo hi) := by
  have e : ∀ n d o, HT.sIx n d o = sIx n d o := fun n d o => by cases o <;> rfl
  unfold cutV Ev.cut
  rw [e, e, h.length]
  exact (h.drop _).take _
theorem RepL.dropLast {vs : List V} {ds : List D} (h : RepL K Fb m H vs ds) : RepL K Fb m H vs.dropLast ds.dropLast := by
  rw [List.dropLast_eq_take, List.dropLast_eq_take, h.length]
  exact h.take _
end

/-! ### as data of the library -/
mutual
def D.py : D → PyData
  | .non => .none
  | .bl b => .bool b
  | .int i => .int i
  | .str s => .str s
  | .tup xs => .tuple (D.pys xs)
  | .lst xs => .list (D.pys xs)
  | .ref _ => .none
def D.pys : List D → List PyData
  | [] => []
  | x :: xs => D.py x :: D.pys xs
end
mutual
theorem py_plain : ∀ d : D, (D.py d).plain = true
  | .non | .bl _ | .int _ | .str _ | .ref _ => rfl
  | .tup xs => pys_plain xs
  | .lst xs => pys_plain xs
theorem pys_plain : ∀ ds : List D, PyData.plainAll (D.pys ds) = true
  | [] => rfl
  | x :: xs => by
    rw [D.pys, PyData.plainAll, py_plain x, pys_plain xs]
    rfl
end
mutual
theorem py_depth : ∀ d : D, (D.py d).depth = D.depth d
  | .non | .bl _ | .int _ | .str _ | .ref _ => rfl
  | .tup xs => congrArg (· + 1) (pys_depth xs)
  | .lst xs => congrArg (· + 1) (pys_depth xs)
theorem pys_depth : ∀ ds : List D, PyData.depthAll (D.pys ds) = D.depths ds
  | [] => rfl
  | x :: xs => by
    rw [D.pys, PyData.depthAll, D.depths, py_depth x, pys_depth xs]
end
mutual
theorem py_eqv : ∀ d e : D, d.plain = true → e.plain = true → PyData.eqv (D.py d) (D.py e) = D.eqv d e
  | .non, .non, _, _ => rfl
  | .non, .bl _, _, _ => rfl
  | .non, .int _, _, _ => rfl
  | .non, .str _, _, _ => rfl
  | .non, .tup _, _, _ => rfl
  | .non, .lst _, _, _ => rfl
  | .bl _, e, _, _ => by cases e <;> rfl
  | .int _, e, _, _ => by cases e <;> rfl
  | .str _, e, _, _ => by cases e <;> rfl
  | .tup xs, .tup ys, h1, h2 => pys_eqv xs ys h1 h2
  | .lst xs, .lst ys, h1, h2 => pys_eqv xs ys h1 h2
  | .tup xs, .non, _, _ => rfl
  | .tup xs, .bl _, _, _ => rfl
  | .tup xs, .int _, _, _ => rfl
  | .tup xs, .str _, _, _ => rfl
  | .tup xs, .lst _, _, _ => rfl
  | .lst xs, .non, _, _ => rfl
  | .lst xs, .bl _, _, _ => rfl
  | .lst xs, .int _, _, _ => rfl
  | .lst xs, .str _, _, _ => rfl
  | .lst xs, .tup _, _, _ => rfl
theorem pys_eqv : ∀ ds es : List D, D.plains ds = true → D.plains es = true → PyData.eqvAll (D.pys ds) (D.pys es) = D.eqvs ds es
  | [], [], _, _ => rfl
  | [], _ :: _, _, _ => rfl
  | _ :: _, [], _, _ => rfl
  | x :: xs, y :: ys, h1, h2 => by
    have a := Bool.and_eq_true_iff.mp h1
    have b := Bool.and_eq_true_iff.mp h2
    rw [D.pys, D.pys, PyData.eqvAll, D.eqvs, py_eqv x y a.1 b.1, pys_eqv xs ys a.2 b.2]
end
section
variable {K : PySem.W.Frag} {Fb : Addr → Prop} {m : List Addr} {H : Hp}
mutual
theorem Rep.dp : ∀ {v : V} {d : D}, Rep K Fb m H v d → d.plain = true → Dp K H v (D.py d)
  | _, _, .non, _ => .non
  | _, _, .bl b, _ => .bl b
  | _, _, .int b, _ => .int b
  | _, _, .str b, _ => .str b
  | _, _, .tup h r, p => .tup h (RepL.dp r p)
  | _, _, .lst h _ r, p => .lst (.inl (.inl h)) (RepL.dp r p)
  | _, _, .ref _, p => nomatch p
theorem RepL.dp : ∀ {v : List V} {d : List D}, RepL K Fb m H v d → D.plains d = true → DpAll K H v (D.pys d)
  | _, _, .nil, _ => .nil
  | _, _, .cons h r, p => .cons (Rep.dp h (Bool.and_eq_true_iff.mp p).1) (RepL.dp r (Bool.and_eq_true_iff.mp p).2)
end
theorem RepV.dp {v : V} {d : D} (r : RepV K Fb m H v d) (p : d.plain = true) : Dp K H v (D.py d) := by
  cases r with
  | of r => exact r.dp p
  | lst h r => exact .lst h (r.dp p)
end
end Ev
end

section
set_option Elab.async false
set_option linter.all false
set_option maxRecDepth 100000
namespace Ev
open PySem L2

/-- what an operation of two values asks: what the evaluator's says -/
def rO2 (K : PySem.W.Frag) (o : Op2) : R2 := fun x y H Q => ∃ (Fb : Addr → Prop) (m : List Addr) (d e r : D), (∀ a, Fb a → H a ≠ none) ∧ RepV K Fb m H x d ∧ RepV K Fb m H y e ∧ o2 o d e = some r ∧
  ∀ v H', Ext H H' → Rep K Fb m H' v r → Q v H'
def rO1 (K : PySem.W.Frag) (F : ReprF) (o : Op1) : V → Hp → VK → Prop := fun x H Q => ∃ (Fb : Addr → Prop) (m : List Addr) (d r : D), (∀ a, Fb a → H a ≠ none) ∧ RepV K Fb m H x d ∧ o1 F o d = some r ∧
  ∀ v H', Ext H H' → Rep K Fb m H' v r → Q v H'
theorem LIM_eq : LIM = sizeLine := by rw [sizeLine_eq]; rfl
section
variable {K : PySem.W.Frag} {Fb : Addr → Prop} {m : List Addr} {H : Hp} {v : V}
theorem RepV.int_inv {i : Int} (h : RepV K Fb m H v (.int i)) : v = .int i := by
  cases h with
  | of h => cases h; rfl
theorem RepV.bl_inv {i : Bool} (h : RepV K Fb m H v (.bl i)) : v = .bl i := by
  cases h with
  | of h => cases h; rfl
theorem RepV.str_inv {i : Str} (h : RepV K Fb m H v (.str i)) : v = .str i := by
  cases h with
  | of h => cases h; rfl
theorem RepV.non_inv (h : RepV K Fb m H v .non) : v = .non := by
  cases h with
  | of h => cases h; rfl
theorem RepV.tup_inv {ds : List D} (h : RepV K Fb m H v (.tup ds)) : ∃ a vs, v = .ref a ∧ SqT K H a vs ∧ RepL K Fb m H vs ds := by
  cases h with
  | of h => cases h with
    | tup a b => exact ⟨_, _, rfl, a, b⟩
theorem RepV.lst_inv {ds : List D} (h : RepV K Fb m H v (.lst ds)) : ∃ a vs, v = .ref a ∧ SqL K H a vs ∧ RepL K Fb m H vs ds := by
  cases h with
  | of h => cases h with
    | lst a _ b => exact ⟨_, _, rfl, .inl (.inl a), b⟩
  | lst a b => exact ⟨_, _, rfl, a, b⟩
theorem rep_new_lst {p : Addr} {vs : List V} {ds : List D} (hf : ∀ a, Fb a → H a ≠ none) (hp : H p = none) (r : RepL K Fb m H vs ds) : Rep K Fb m (upd H p (.lst vs)) (.ref p) (.lst ds) :=
  .lst upd_same (fun h => hf p h hp) (r.ext (Evl.Ex.new hp))
theorem rep_new_tup {p : Addr} {vs : List V} {ds : List D} (hp : H p = none) (r : RepL K Fb m H vs ds) : Rep K Fb m (upd H p (.tup vs)) (.ref p) (.tup ds) :=
  .tup (.inl (.inl upd_same)) (r.ext (Evl.Ex.new hp))
end
section
variable {X : Cx}
theorem cat_lists {pins : List (Addr × Obj)} {σ : St} {H : Hp} {s : Shared} {a b : Addr} {vs ws : List V} {v u : Value} {Q : VK} (I : Inv X pins σ H s) (rx : RelV (.ref a) v) (ry : RelV (.ref b) u)
    (hv : SqL X.K H a vs) (hw : SqL X.K H b ws) (hz : vs.length + ws.length ≤ sizeLine) (q : ∀ p, H p = none → Q (.ref p) (upd H p (.lst (vs ++ ws)))) :
    wpAny (model X.prog X.w) X.A (binaryOp .Add v u) (EP X pins σ Q) X.xe s := by
  cases rx
  cases ry
  obtain ⟨i1, r1, ⟨⟨c1, e1, t1, l1⟩, n1, g1, hc1, hd1, hs1⟩, _⟩ := I.list hv
  obtain ⟨i2, r2, ⟨⟨c2, e2, t2, l2⟩, n2, g2, hc2, hd2, hs2⟩, _⟩ := I.list hw
  simp only at hc1 hd1 hs1 hc2 hd2 hs2
  subst hc1 hd1 hs1 hc2 hd2 hs2
  have ea : i1.toArray ++ i2.toArray = (i1 ++ i2).toArray := by simp
  refine PySem.concat_meets ⟨_, g1, rfl⟩ ⟨_, g2, rfl⟩ PySem.noFill_list_add PySem.seq_list_add PySem.F.slot_list_add PySem.F.entry_list_add (PySem.F.args_list_add_2 _ _)
    (PyProof.Rows.list_addW a b i1.toArray i2.toArray n1 n2 none none l1 l2 (by rw [List.size_toArray, List.size_toArray, ← r1.length, ← r2.length]; exact hz)) ⟨g1, g2, ?_⟩
  rw [ea]
  exact ⟨.ref _, _, I.lnew (t' := s.toks) (r1.append r2) (by rw [List.length_append]; exact hz), rfl, q _ I.fresh⟩
theorem ro_add : OpR X (binaryOp .Add) (rO2 X.K .add) := by
  rintro pins s σ H x y v u Q I rx ry ⟨Fb, m, d, e, r, hf, hx, hy, ho, q⟩
  cases d <;> cases e <;> simp only [o2, reduceCtorEq, Option.some.injEq, Option.ite_none_right_eq_some] at ho
  · subst ho
    obtain rfl := hx.int_inv
    obtain rfl := hy.int_inv
    exact op_add pins s σ H _ _ v u Q I rx ry ⟨_, _, rfl, rfl, q _ _ (Evl.Ex.refl _) (.int _)⟩
  · obtain ⟨hl, rfl⟩ := ho
    obtain rfl := hx.str_inv
    obtain rfl := hy.str_inv
    exact op_add_str pins s σ H _ _ v u Q I rx ry ⟨_, _, rfl, rfl, by rw [← LIM_eq]; exact hl, q _ _ (Evl.Ex.refl _) (.str _)⟩
  · obtain ⟨hl, rfl⟩ := ho
    obtain ⟨a, vs, rfl, hv, rv⟩ := hx.tup_inv
    obtain ⟨b, ws, rfl, hw, rw'⟩ := hy.tup_inv
    refine op_catA pins s σ H _ _ v u Q I rx ry ⟨a, b, vs, ws, rfl, rfl, hv, hw, by rw [rv.length, rw'.length, ← LIM_eq]; exact hl, fun e => ?_, fun _ e => ?_, fun _ _ p hp => ?_⟩
    · subst e
      cases rv
      exact q _ _ (Evl.Ex.refl _) (.tup hw rw')
    · subst e
      cases rw'
      rw [List.append_nil] at q
      exact q _ _ (Evl.Ex.refl _) (.tup hv rv)
    · exact q _ _ (Evl.Ex.new hp) (rep_new_tup hp (rv.append rw'))
  · obtain ⟨hl, rfl⟩ := ho
    obtain ⟨a, vs, rfl, hv, rv⟩ := hx.lst_inv
    obtain ⟨b, ws, rfl, hw, rw'⟩ := hy.lst_inv
    exact cat_lists I rx ry hv hw (by rw [rv.length, rw'.length, ← LIM_eq]; exact hl) fun p hp => q _ _ (Evl.Ex.new hp) (rep_new_lst hf hp (rv.append rw'))

theorem ro_ints {f : Value → Value → Sem Value} {o : Op2} {C : Int → Int → Prop} {g : Int → Int → V} {G : Int → Int → D} (base : OpR X f (rI C g))
    (ho : ∀ d e r, o2 o d e = some r → ∃ i j, d = .int i ∧ e = .int j ∧ C i j ∧ r = G i j) (hg : ∀ (Fb : Addr → Prop) (m : List Addr) (H : Hp) i j, Rep X.K Fb m H (g i j) (G i j)) : OpR X f (rO2 X.K o) := by
  rintro pins s σ H x y v u Q I rx ry ⟨Fb, m, d, e, r, hf, hx, hy, h, q⟩
  obtain ⟨i, j, rfl, rfl, hc, rfl⟩ := ho _ _ _ h
  obtain rfl := hx.int_inv
  obtain rfl := hy.int_inv
  exact base pins s σ H _ _ v u Q I rx ry ⟨i, j, rfl, rfl, hc, q _ _ (Evl.Ex.refl _) (hg _ _ _ _ _)⟩
theorem rI_of {f : Value → Value → Sem Value} {g : Int → Int → V} (h : OpR X f (rI0 g)) : OpR X f (rI (fun _ _ => True) g) := by
  rintro pins s σ H x y v u Q I rx ry ⟨i, j, h1, h2, _, q⟩
  exact h pins s σ H x y v u Q I rx ry ⟨i, j, h1, h2, q⟩
theorem ro_sub : OpR X (binaryOp .Sub) (rO2 X.K .sub) :=
  ro_ints (G := fun i j => .int (i - j)) (rI_of op_sub) (fun d e r h => by
    cases d <;> cases e <;> simp only [o2, reduceCtorEq, Option.some.injEq] at h
    exact ⟨_, _, rfl, rfl, trivial, h.symm⟩) fun _ _ _ _ _ => .int _
theorem ro_fdiv : OpR X (binaryOp .FloorDiv) (rO2 X.K .fdiv) :=
  ro_ints (G := fun i j => .int (i / j)) op_fdivW (fun d e r h => by
    cases d <;> cases e <;> simp only [o2, reduceCtorEq, Option.some.injEq, Option.ite_none_right_eq_some, Bool.and_eq_true, decide_eq_true_eq] at h
    exact ⟨_, _, rfl, rfl, ⟨h.1.1, h.1.2⟩, h.2.symm⟩) fun _ _ _ _ _ => .int _
theorem ro_mod : OpR X (binaryOp .Mod) (rO2 X.K .mod) :=
  ro_ints (G := fun i j => .int (i % j)) op_mod (fun d e r h => by
    cases d <;> cases e <;> simp only [o2, reduceCtorEq, Option.some.injEq, Option.ite_none_right_eq_some, Bool.and_eq_true, decide_eq_true_eq] at h
    exact ⟨_, _, rfl, rfl, h.1, h.2.symm⟩) fun _ _ _ _ _ => .int _
theorem ro_pow : OpR X (binaryOp .Pow) (rO2 X.K .pow) :=
  ro_ints (G := fun i j => .int (i ^ j.toNat)) op_pow (fun d e r h => by
    cases d <;> cases e <;> simp only [o2, reduceCtorEq, Option.some.injEq, Option.ite_none_right_eq_some, Bool.and_eq_true, decide_eq_true_eq] at h
    exact ⟨_, _, rfl, rfl, ⟨h.1.1.1, h.1.1.2, h.1.2⟩, h.2.symm⟩) fun _ _ _ _ _ => .int _
/-! comparisons of ints and of texts -/
theorem ro_lt : OpR X (compareOp .Lt) (rO2 X.K .lt) := by
  rintro pins s σ H x y v u Q I rx ry ⟨Fb, m, d, e, r, hf, hx, hy, ho, q⟩
  cases d <;> cases e <;> simp only [o2, reduceCtorEq, Option.some.injEq] at ho
  · subst ho
    obtain rfl := hx.int_inv
    obtain rfl := hy.int_inv
    exact op_lt pins s σ H _ _ v u Q I rx ry ⟨_, _, rfl, rfl, q _ _ (Evl.Ex.refl _) (.bl _)⟩
  · subst ho
    obtain rfl := hx.str_inv
    obtain rfl := hy.str_inv
    exact op_lt_str pins s σ H _ _ v u Q I rx ry ⟨_, _, rfl, rfl, q _ _ (Evl.Ex.refl _) (.bl _)⟩
theorem ro_le : OpR X (compareOp .LtE) (rO2 X.K .le) := by
  rintro pins s σ H x y v u Q I rx ry ⟨Fb, m, d, e, r, hf, hx, hy, ho, q⟩
  cases d <;> cases e <;> simp only [o2, reduceCtorEq, Option.some.injEq] at ho
  · subst ho
    obtain rfl := hx.int_inv
    obtain rfl := hy.int_inv
    exact op_le pins s σ H _ _ v u Q I rx ry ⟨_, _, rfl, rfl, q _ _ (Evl.Ex.refl _) (.bl _)⟩
  · subst ho
    obtain rfl := hx.str_inv
    obtain rfl := hy.str_inv
    exact op_le_str pins s σ H _ _ v u Q I rx ry ⟨_, _, rfl, rfl, q _ _ (Evl.Ex.refl _) (.bl _)⟩
theorem ro_gt : OpR X (compareOp .Gt) (rO2 X.K .gt) :=
  ro_ints (G := fun i j => .bl (decide (j < i))) (rI_of op_gt) (fun d e r h => by
    cases d <;> cases e <;> simp only [o2, reduceCtorEq, Option.some.injEq] at h
    exact ⟨_, _, rfl, rfl, trivial, h.symm⟩) fun _ _ _ _ _ => .bl _
theorem ro_ge : OpR X (compareOp .GtE) (rO2 X.K .ge) :=
  ro_ints (G := fun i j => .bl (decide (j ≤ i))) (rI_of op_ge) (fun d e r h => by
    cases d <;> cases e <;> simp only [o2, reduceCtorEq, Option.some.injEq] at h
    exact ⟨_, _, rfl, rfl, trivial, h.symm⟩) fun _ _ _ _ _ => .bl _
/-! == and !=, in and not in -/
theorem ro_eq (hu : X.A.units + 66 < cLine) : OpR X (compareOp .Eq) (rO2 X.K .eq) := by
  rintro pins s σ H x y v u Q I rx ry ⟨Fb, m, d, e, r, hf, hx, hy, ho, q⟩
  simp only [o2, Option.ite_none_right_eq_some, Option.some.injEq, cmpOk, Bool.and_eq_true, decide_eq_true_eq] at ho
  obtain ⟨⟨⟨pd, pe⟩, hm⟩, rfl⟩ := ho
  obtain ⟨as, r1⟩ := Dp.reads I _ x v (hx.dp pd) rx
  obtain ⟨bs, r2⟩ := Dp.reads I _ y u (hy.dp pe) ry
  refine PySem.SeqAt.eq_plain r1 r2 (py_plain d) (py_plain e) (by rw [py_depth, py_depth]; omega) (fin_bl I (k := D.eqv d e) (q _ _ (Evl.Ex.refl _) (.bl _)) ?_)
  rw [py_eqv d e pd pe]
theorem ro_ne (hu : X.A.units + 66 < cLine) : OpR X (compareOp .NotEq) (rO2 X.K .ne) := by
  rintro pins s σ H x y v u Q I rx ry ⟨Fb, m, d, e, r, hf, hx, hy, ho, q⟩
  simp only [o2, Option.ite_none_right_eq_some, Option.some.injEq, cmpOk, Bool.and_eq_true, decide_eq_true_eq] at ho
  obtain ⟨⟨⟨pd, pe⟩, hm⟩, rfl⟩ := ho
  obtain ⟨as, r1⟩ := Dp.reads I _ x v (hx.dp pd) rx
  obtain ⟨bs, r2⟩ := Dp.reads I _ y u (hy.dp pe) ry
  refine PySem.SeqAt.ne_plain r1 r2 (py_plain d) (py_plain e) (by rw [py_depth, py_depth]; omega) (fin_bl I (k := !D.eqv d e) (q _ _ (Evl.Ex.refl _) (.bl _)) ?_)
  rw [py_eqv d e pd pe]
theorem pys_any (d : D) (hd : d.plain = true) : ∀ ys : List D, D.plains ys = true → ((D.pys ys).any fun y => PyData.eqv y d.py) = ys.any fun y => D.eqv y d
  | [], _ => rfl
  | y :: ys, h => by
    have a := Bool.and_eq_true_iff.mp h
    rw [D.pys, List.any_cons, List.any_cons, py_eqv y d a.1 hd, pys_any d hd ys a.2]
theorem ro_in (hu : X.A.units + 66 < cLine) : OpR X (compareOp .In) (rO2 X.K .inn) := by
  rintro pins s σ H x y v u Q I rx ry ⟨Fb, m, d, e, r, hf, hx, hy, ho, q⟩
  have seq : ∀ ys : List D, d.plain = true → D.plains ys = true → (∃ as, Reads s.heap u (.list (D.pys ys)) as) ∨ (∃ as, Reads s.heap u (.tuple (D.pys ys)) as) → D.depth d ≤ 64 → r = .bl (ys.any fun y => D.eqv y d) →
      wpAny (model X.prog X.w) X.A (compareOp .In v u) (EP X pins σ Q) X.xe s := fun ys pd ps hr hd er => by
    subst er
    obtain ⟨bs, r2⟩ := Dp.reads I _ x v (hx.dp pd) rx
    have hroom : X.A.units + 1 + min (PyData.depthAll (D.pys ys)) (D.py d).depth < cLine := by rw [py_depth]; omega
    have fin : EP X pins σ Q (.bool ((D.pys ys).any fun y => PyData.eqv y d.py)) s := fin_bl I (q _ _ (Evl.Ex.refl _) (.bl _)) (by rw [pys_any d pd ys ps])
    rcases hr with ⟨as, r1⟩ | ⟨as, r1⟩
    · exact PySem.SeqAt.in_list_data r1 r2 (pys_plain ys) (py_plain d) hroom fin
    · exact PySem.SeqAt.in_tuple_data r1 r2 (pys_plain ys) (py_plain d) hroom fin
  cases e with
  | lst ys =>
    simp only [o2, Option.ite_none_right_eq_some, Option.some.injEq, Bool.and_eq_true, decide_eq_true_eq] at ho
    obtain ⟨⟨⟨pd, pe⟩, hm⟩, er⟩ := ho
    exact seq ys pd pe (.inl (Dp.reads I _ y u (hy.dp pe) ry)) hm er.symm
  | tup ys =>
    simp only [o2, Option.ite_none_right_eq_some, Option.some.injEq, Bool.and_eq_true, decide_eq_true_eq] at ho
    obtain ⟨⟨⟨pd, pe⟩, hm⟩, er⟩ := ho
    exact seq ys pd pe (.inr (Dp.reads I _ y u (hy.dp pe) ry)) hm er.symm
  | str b =>
    cases d <;> simp only [o2, reduceCtorEq, Option.some.injEq] at ho
    subst ho
    obtain rfl := hx.str_inv
    obtain rfl := hy.str_inv
    exact op_in_str pins s σ H _ _ v u Q I rx ry ⟨_, _, rfl, rfl, q _ _ (Evl.Ex.refl _) (.bl _)⟩
  | _ => cases d <;> simp [o2] at ho
theorem ro_nin (hu : X.A.units + 66 < cLine) : OpR X (compareOp .NotIn) (rO2 X.K .nin) := by
  rintro pins s σ H x y v u Q I rx ry ⟨Fb, m, d, e, r, hf, hx, hy, ho, q⟩
  have seq : ∀ ys : List D, d.plain = true → D.plains ys = true → (∃ as, Reads s.heap u (.list (D.pys ys)) as) ∨ (∃ as, Reads s.heap u (.tuple (D.pys ys)) as) → D.depth d ≤ 64 → r = .bl (!ys.any fun y => D.eqv y d) →
      wpAny (model X.prog X.w) X.A (compareOp .NotIn v u) (EP X pins σ Q) X.xe s := fun ys pd ps hr hd er => by
    subst er
    obtain ⟨bs, r2⟩ := Dp.reads I _ x v (hx.dp pd) rx
    have hroom : X.A.units + 1 + min (PyData.depthAll (D.pys ys)) (D.py d).depth < cLine := by rw [py_depth]; omega
    have fin : EP X pins σ Q (.bool (!(D.pys ys).any fun y => PyData.eqv y d.py)) s := fin_bl I (q _ _ (Evl.Ex.refl _) (.bl _)) (by rw [pys_any d pd ys ps])
    rcases hr with ⟨as, r1⟩ | ⟨as, r1⟩
    · exact PySem.SeqAt.notIn_list_data r1 r2 (pys_plain ys) (py_plain d) hroom fin
    · exact PySem.SeqAt.notIn_tuple_data r1 r2 (pys_plain ys) (py_plain d) hroom fin
  cases e with
  | lst ys =>
    simp only [o2, Option.ite_none_right_eq_some, Option.some.injEq, Bool.and_eq_true, decide_eq_true_eq] at ho
    obtain ⟨⟨⟨pd, pe⟩, hm⟩, er⟩ := ho
    exact seq ys pd pe (.inl (Dp.reads I _ y u (hy.dp pe) ry)) hm er.symm
  | tup ys =>
    simp only [o2, Option.ite_none_right_eq_some, Option.some.injEq, Bool.and_eq_true, decide_eq_true_eq] at ho
    obtain ⟨⟨⟨pd, pe⟩, hm⟩, er⟩ := ho
    exact seq ys pd pe (.inr (Dp.reads I _ y u (hy.dp pe) ry)) hm er.symm
  | str b =>
    cases d <;> simp only [o2, reduceCtorEq, Option.some.injEq] at ho
    subst ho
    obtain rfl := hx.str_inv
    obtain rfl := hy.str_inv
    exact op_notin_str pins s σ H _ _ v u Q I rx ry ⟨_, _, rfl, rfl, q _ _ (Evl.Ex.refl _) (.bl _)⟩
  | _ => cases d <;> simp [o2] at ho
theorem rep_isN {Fb : Addr → Prop} {m : List Addr} {H : Hp} {x : V} {d : D} (h : RepV X.K Fb m H x d) : decide (x = .non) = d.isNon := by
  cases h with
  | of h => cases h <;> simp [D.isNon]
  | lst _ _ => simp [D.isNon]
theorem ro_is : OpR X (compareOp .Is) (rO2 X.K .is) := by
  rintro pins s σ H x y v u Q I rx ry ⟨Fb, m, d, e, r, hf, hx, hy, ho, q⟩
  cases e <;> simp only [o2, reduceCtorEq, Option.some.injEq] at ho
  subst ho
  obtain rfl := hy.non_inv
  refine op_isN pins s σ H _ _ v u Q I rx ry ⟨rfl, ?_⟩
  rw [rep_isN hx]
  exact q _ _ (Evl.Ex.refl _) (.bl _)
theorem ro_isnot : OpR X (compareOp .IsNot) (rO2 X.K .isnot) := by
  rintro pins s σ H x y v u Q I rx ry ⟨Fb, m, d, e, r, hf, hx, hy, ho, q⟩
  cases e <;> simp only [o2, reduceCtorEq, Option.some.injEq] at ho
  subst ho
  obtain rfl := hy.non_inv
  refine op_notN pins s σ H _ _ v u Q I rx ry ⟨rfl, ?_⟩
  rw [rep_isN hx]
  exact q _ _ (Evl.Ex.refl _) (.bl _)
end
end Ev
end

section
set_option Elab.async false
set_option linter.all false
set_option maxRecDepth 100000
namespace Ev
open PySem L2
/-! the library's own names of the same functions -/
theorem sIx_same (n k : Nat) (o : Option Int) : HT.sIx n k o = sIx n k o := by cases o <;> rfl
theorem ixN_same (n : Nat) (i : Int) : L2.ixN n i = Ev.ixN n i := rfl
theorem RepL.at {K : PySem.W.Frag} {Fb : Addr → Prop} {m : List Addr} {H : Hp} {vs : List V} {ds : List D} {i : Int} {d : D} (r : RepL K Fb m H vs ds) (h : Ev.atI ds i = some d) : ∃ v, L2.atI vs i = some v ∧ Rep K Fb m H v d := by
  unfold Ev.atI at h
  obtain ⟨j, h1, h2⟩ := Option.bind_eq_some_iff.mp h
  obtain ⟨v, h3, h4⟩ := r.get h2
  refine ⟨v, ?_, h4⟩
  unfold L2.atI
  rw [ixN_same, r.length, h1]
  exact h3
section
variable {X : Cx}
theorem ro_ix : IxR X (rO2 X.K .ix) := by
  rintro value slice pins s σ H x y v u Q I rx ry ⟨Fb, m, d, e, r, hf, hx, hy, ho, q⟩ hs
  cases d with
  | lst ds =>
    cases e <;> simp only [o2, reduceCtorEq] at ho
    obtain rfl := hy.int_inv
    obtain ⟨a, vs, rfl, hv, rv⟩ := hx.lst_inv
    obtain ⟨z, hz, rz⟩ := rv.at ho
    exact ix_list value slice pins s σ H _ _ v u Q I rx ry ⟨a, vs, _, z, rfl, rfl, hv, hz, q _ _ (Evl.Ex.refl _) rz⟩ hs
  | tup ds =>
    cases e <;> simp only [o2, reduceCtorEq] at ho
    obtain rfl := hy.int_inv
    obtain ⟨a, vs, rfl, hv, rv⟩ := hx.tup_inv
    obtain ⟨z, hz, rz⟩ := rv.at ho
    exact ix_tup value slice pins s σ H _ _ v u Q I rx ry ⟨a, vs, _, z, rfl, rfl, hv, hz, q _ _ (Evl.Ex.refl _) rz⟩ hs
  | str z =>
    cases e <;> simp only [o2, reduceCtorEq, Option.ite_none_right_eq_some] at ho
    obtain ⟨hl, ho⟩ := ho
    obtain ⟨c, hc, rfl⟩ := Option.map_eq_some_iff.mp ho
    obtain rfl := hy.int_inv
    obtain rfl := hx.str_inv
    exact ix_str value slice pins s σ H _ _ v u Q I rx ry ⟨_, _, c, rfl, rfl, by rw [← LIM_eq]; exact hl, hc, q _ _ (Evl.Ex.refl _) (.str _)⟩ hs
  | _ => cases e <;> simp [o2] at ho
def rSl (K : PySem.W.Frag) : V → Option Int → Option Int → Hp → VK → Prop := fun x lo hi H Q => ∃ (Fb : Addr → Prop) (m : List Addr) (d r : D), (∀ a, Fb a → H a ≠ none) ∧ RepV K Fb m H x d ∧ slD lo hi d = some r ∧
  ∀ v H', Ext H H' → Rep K Fb m H' v r → Q v H'
theorem cut_all {α : Type} (xs : List α) (lo hi : Option Int) (h1 : sIx xs.length 0 lo = 0) (h2 : sIx xs.length xs.length hi = xs.length) : Ev.cut xs lo hi = xs := by
  unfold Ev.cut
  rw [h1, h2]
  simp
theorem ro_sl : SlR X (rSl X.K) := by
  rintro pins s σ H x v vl vu lo hi sl Q I rx hs pl pu ⟨Fb, m, d, r, hf, hx, ho, q⟩
  cases d with
  | lst ds =>
    obtain rfl : _ = _ := Option.some.inj ho
    obtain ⟨a, vs, rfl, hv, rv⟩ := hx.lst_inv
    exact sl_list pins s σ H _ v vl vu lo hi sl Q I rx hs pl pu ⟨a, vs, rfl, hv, fun p hp => q _ _ (Evl.Ex.new hp) (rep_new_lst hf hp (rv.cut lo hi))⟩
  | tup ds =>
    obtain rfl : _ = _ := Option.some.inj ho
    obtain ⟨a, vs, rfl, hv, rv⟩ := hx.tup_inv
    refine sl_tupA pins s σ H _ v vl vu lo hi sl Q I rx hs pl pu ⟨a, vs, rfl, hv, fun ⟨e1, e2⟩ => ?_, fun _ p hp => q _ _ (Evl.Ex.new hp) (rep_new_tup hp (rv.cut lo hi))⟩
    rw [sIx_same, rv.length] at e1 e2
    refine q _ _ (Evl.Ex.refl _) ?_
    rw [cut_all ds lo hi e1 e2]
    exact .tup hv rv
  | str z =>
    simp only [slD, Option.ite_none_right_eq_some, Option.some.injEq] at ho
    obtain ⟨hl, rfl⟩ := ho
    obtain rfl := hx.str_inv
    refine sl_str pins s σ H _ v vl vu lo hi sl Q I rx hs pl pu ⟨z, rfl, by rw [← LIM_eq]; exact hl, q _ _ (Evl.Ex.refl _) ?_⟩
    have e : cutS z lo hi = cutStr z lo hi := by
      unfold cutS cutStr Ev.cut
      rw [sIx_same, sIx_same]
      rfl
    rw [e]
    exact .str _
  | _ => simp [slD] at ho

/-! ### built-ins of one value -/
theorem rep1 {K : PySem.W.Frag} {Fb : Addr → Prop} {m : List Addr} {H : Hp} {x : V} {d : D} (h : RepV K Fb m H x d) : ∀ is, d = .lst (is) → ∃ a vs, x = .ref a ∧ SqL K H a vs ∧ RepL K Fb m H vs is := fun is e => by
  subst e
  exact h.lst_inv
theorem ints_vs {K : PySem.W.Frag} {Fb : Addr → Prop} {m : List Addr} {H : Hp} : ∀ {vs : List V} {ds : List D} {is : List Int}, RepL K Fb m H vs ds → ints? ds = some is → vs = is.map V.int
  | _, _, _, .nil, h => by
    obtain rfl := Option.some.inj h
    rfl
  | _, _, _, .cons (d := .int i) a r, h => by
    obtain ⟨js, h1, rfl⟩ := Option.map_eq_some_iff.mp (show (ints? _).map (i :: ·) = some _ from h)
    cases a
    rw [ints_vs r h1]
    rfl
theorem bls_vs {K : PySem.W.Frag} {Fb : Addr → Prop} {m : List Addr} {H : Hp} : ∀ {vs : List V} {ds : List D} {is : List Bool}, RepL K Fb m H vs ds → bls? ds = some is → vs = is.map V.bl
  | _, _, _, .nil, h => by
    obtain rfl := Option.some.inj h
    rfl
  | _, _, _, .cons (d := .bl i) a r, h => by
    obtain ⟨js, h1, rfl⟩ := Option.map_eq_some_iff.mp (show (bls? _).map (i :: ·) = some _ from h)
    cases a
    rw [bls_vs r h1]
    rfl
def rC1 (K : PySem.W.Frag) (F : ReprF) (o : Op1) : List V → Hp → VK → Prop := fun xs H Q => ∃ x, xs = [x] ∧ rO1 K F o x H Q
variable {F : ReprF}
theorem rc_len : CallR X (.builtin "len") (rC1 X.K F .len) := by
  rintro pins s σ H xs us Q I r ⟨x, rfl, Fb, m, d, r', hf, hx, ho, q⟩
  cases d with
  | lst ds =>
    obtain rfl : _ = _ := Option.some.inj ho
    obtain ⟨a, vs, rfl, hv, rv⟩ := hx.lst_inv
    exact call_len_seq pins s σ H _ us Q I r ⟨a, vs, rfl, .inl hv, by rw [rv.length]; exact q _ _ (Evl.Ex.refl _) (.int _)⟩
  | tup ds =>
    obtain rfl : _ = _ := Option.some.inj ho
    obtain ⟨a, vs, rfl, hv, rv⟩ := hx.tup_inv
    exact call_len_seq pins s σ H _ us Q I r ⟨a, vs, rfl, .inr hv, by rw [rv.length]; exact q _ _ (Evl.Ex.refl _) (.int _)⟩
  | str z =>
    simp only [o1, Option.ite_none_right_eq_some, Option.some.injEq] at ho
    obtain ⟨hl, rfl⟩ := ho
    obtain rfl := hx.str_inv
    exact call_len_str pins s σ H _ us Q I r ⟨z, rfl, by rw [← LIM_eq]; exact hl, q _ _ (Evl.Ex.refl _) (.int _)⟩
  | _ => simp [o1] at ho
theorem rc_tuple : CallR X (.type "tuple") (rC1 X.K F .tuple) := by
  rintro pins s σ H xs us Q I r ⟨x, rfl, Fb, m, d, r', hf, hx, ho, q⟩
  cases d with
  | lst ds =>
    obtain rfl : _ = _ := Option.some.inj ho
    obtain ⟨a, vs, rfl, hv, rv⟩ := hx.lst_inv
    exact call_tuple_of pins s σ H _ us Q I r ⟨a, vs, rfl, .inl ⟨hv, fun p hp => q _ _ (Evl.Ex.new hp) (rep_new_tup hp rv)⟩⟩
  | tup ds =>
    obtain rfl : _ = _ := Option.some.inj ho
    obtain ⟨a, vs, rfl, hv, rv⟩ := hx.tup_inv
    exact call_tuple_of pins s σ H _ us Q I r ⟨a, vs, rfl, .inr ⟨hv, q _ _ (Evl.Ex.refl _) (.tup hv rv)⟩⟩
  | _ => simp [o1] at ho
theorem rc_list : CallR X (.type "list") (rC1 X.K F .list) := by
  rintro pins s σ H xs us Q I r ⟨x, rfl, Fb, m, d, r', hf, hx, ho, q⟩
  cases d with
  | lst ds =>
    obtain rfl : _ = _ := Option.some.inj ho
    obtain ⟨a, vs, rfl, hv, rv⟩ := hx.lst_inv
    exact call_list_of pins s σ H _ us Q I r ⟨a, vs, rfl, .inl hv, fun p hp => q _ _ (Evl.Ex.new hp) (rep_new_lst hf hp rv)⟩
  | tup ds =>
    obtain rfl : _ = _ := Option.some.inj ho
    obtain ⟨a, vs, rfl, hv, rv⟩ := hx.tup_inv
    exact call_list_of pins s σ H _ us Q I r ⟨a, vs, rfl, .inr hv, fun p hp => q _ _ (Evl.Ex.new hp) (rep_new_lst hf hp rv)⟩
  | _ => simp [o1] at ho
theorem rc_sum (hc : X.calm = true) : CallR X (.builtin "sum") (rC1 X.K F .sum) := by
  rintro pins s σ H xs us Q I r ⟨x, rfl, Fb, m, d, r', hf, hx, ho, q⟩
  cases d <;> simp only [o1, reduceCtorEq, Option.map_eq_some_iff] at ho
  obtain ⟨is, hi, rfl⟩ := ho
  obtain ⟨a, vs, rfl, hv, rv⟩ := hx.lst_inv
  obtain rfl := ints_vs rv hi
  exact cr_sum hc pins s σ H _ us Q I r ⟨a, is, rfl, hv, q _ _ (Evl.Ex.refl _) (.int _)⟩
theorem rc_any (hc : X.calm = true) : CallR X (.builtin "any") (rC1 X.K F .any) := by
  rintro pins s σ H xs us Q I r ⟨x, rfl, Fb, m, d, r', hf, hx, ho, q⟩
  cases d <;> simp only [o1, reduceCtorEq, Option.map_eq_some_iff] at ho
  obtain ⟨is, hi, rfl⟩ := ho
  obtain ⟨a, vs, rfl, hv, rv⟩ := hx.lst_inv
  obtain rfl := bls_vs rv hi
  exact cr_any hc pins s σ H _ us Q I r ⟨a, is, rfl, hv, q _ _ (Evl.Ex.refl _) (.bl _)⟩
theorem rc_all (hc : X.calm = true) : CallR X (.builtin "all") (rC1 X.K F .all) := by
  rintro pins s σ H xs us Q I r ⟨x, rfl, Fb, m, d, r', hf, hx, ho, q⟩
  cases d <;> simp only [o1, reduceCtorEq, Option.map_eq_some_iff] at ho
  obtain ⟨is, hi, rfl⟩ := ho
  obtain ⟨a, vs, rfl, hv, rv⟩ := hx.lst_inv
  obtain rfl := bls_vs rv hi
  exact cr_all hc pins s σ H _ us Q I r ⟨a, is, rfl, hv, q _ _ (Evl.Ex.refl _) (.bl _)⟩
theorem rc_abs : CallR X (.builtin "abs") (rC1 X.K F .abs) := by
  rintro pins s σ H xs us Q I r ⟨x, rfl, Fb, m, d, r', hf, hx, ho, q⟩
  cases d <;> simp only [o1, reduceCtorEq, Option.some.injEq] at ho
  subst ho
  obtain rfl := hx.int_inv
  exact call_abs pins s σ H _ us Q I r ⟨_, rfl, q _ _ (Evl.Ex.refl _) (.int _)⟩
theorem rc_int : CallR X (.type "int") (rC1 X.K F .int) := by
  rintro pins s σ H xs us Q I r ⟨x, rfl, Fb, m, d, r', hf, hx, ho, q⟩
  cases d <;> simp only [o1, reduceCtorEq, Option.some.injEq] at ho
  · subst ho
    obtain rfl := hx.bl_inv
    exact call_int1 pins s σ H _ us Q I r (.inr ⟨_, rfl, q _ _ (Evl.Ex.refl _) (.int _)⟩)
  · subst ho
    obtain rfl := hx.int_inv
    exact call_int1 pins s σ H _ us Q I r (.inl ⟨_, rfl, q _ _ (Evl.Ex.refl _) (.int _)⟩)
mutual
theorem py_noDict : ∀ d : D, (D.py d).hasDict = false
  | .non | .bl _ | .int _ | .str _ | .ref _ => rfl
  | .tup xs => pys_noDict xs
  | .lst xs => pys_noDict xs
theorem pys_noDict : ∀ ds : List D, PyData.hasDictAll (D.pys ds) = false
  | [] => rfl
  | x :: xs => by
    rw [D.pys, PyData.hasDictAll, py_noDict x, pys_noDict xs]
    rfl
end
/-- the order of sorting -/
def leD (x y : D) : Bool := !PySem.W.dataLt (D.py y) (D.py x)
def sortB (ds : List D) : Bool := ds.all D.isTup || (ds.all fun d => match d with | .non => false | .tup _ => false | _ => true)
def srtL (ds : List D) : Option (List D) := if D.plains ds && (ds.all fun d => ds.all fun e => PySem.W.alike (D.py d) (D.py e)) && sortB ds && (ds.all fun d => decide (D.depth d ≤ 64)) && decide (ds.length ≤ LIM) then some (ds.mergeSort leD) else none
/-- what repr writes -/
def reprL : ReprF where
  text d := (D.py d).shown
  ok d := (D.py d).showable && decide ((D.py d).shown.length ≤ LIM) && decide (D.depth d ≤ 64)
  srt := srtL
  uni := uniL
theorem rc_repr (hg : X.A.guards = some []) (hu : X.A.units + 66 < cLine) : CallR X (.builtin "repr") (rC1 X.K reprL .repr) := by
  rintro pins s σ H xs us Q I r ⟨x, rfl, Fb, m, d, r', hf, hx, ho, q⟩
  obtain ⟨u, rfl, rx⟩ := Vals.one r
  simp only [o1, Option.ite_none_right_eq_some, Option.some.injEq, Bool.and_eq_true, reprL, decide_eq_true_eq] at ho
  obtain ⟨⟨pd, ⟨hs, hl⟩, hd⟩, rfl⟩ := ho
  cases d with
  | non =>
    obtain rfl := hx.non_inv
    cases rx
    exact PySem.P.repr_of_none ⟨.str _, H, I.tok _, ⟨_, rfl⟩, q _ _ (Evl.Ex.refl _) (.str _)⟩
  | bl b =>
    obtain rfl := hx.bl_inv
    cases rx
    exact PySem.P.repr_of_bool ⟨.str _, H, I.tok _, ⟨_, rfl⟩, q _ _ (Evl.Ex.refl _) (.str _)⟩
  | int i =>
    obtain rfl := hx.int_inv
    obtain ⟨t, rfl⟩ := rx
    exact PySem.P.repr_of_int (of_decide_eq_true hs) ⟨.str _, H, I.tok _, ⟨_, rfl⟩, q _ _ (Evl.Ex.refl _) (.str _)⟩
  | str z =>
    obtain rfl := hx.str_inv
    obtain ⟨t, rfl⟩ := rx
    exact PySem.P.repr_of_str ⟨.str _, H, I.tok _, ⟨_, rfl⟩, q _ _ (Evl.Ex.refl _) (.str _)⟩ (by rw [← LIM_eq]; exact hl)
  | ref k => cases pd
  | lst ds =>
    obtain ⟨as, rd⟩ := Dp.reads I _ x u (hx.dp pd) rx
    obtain ⟨a, vs, rfl, hv, rv⟩ := hx.lst_inv
    cases rx
    refine PySem.repr_of_reads' (h₀ := s.heap) rd hs (PyData.noDict_hsm (py_noDict _)) hg (by rw [py_depth]; omega) (fun _ _ e => e) (fun h' t tk hk => ⟨.str _, H, I.kept hk, ⟨_, rfl⟩, q _ _ (Evl.Ex.refl _) (.str _)⟩) (by rw [← LIM_eq]; exact hl)
  | tup ds =>
    obtain ⟨as, rd⟩ := Dp.reads I _ x u (hx.dp pd) rx
    obtain ⟨a, vs, rfl, hv, rv⟩ := hx.tup_inv
    cases rx
    refine PySem.repr_of_reads' (h₀ := s.heap) rd hs (PyData.noDict_hsm (py_noDict _)) hg (by rw [py_depth]; omega) (fun _ _ e => e) (fun h' t tk hk => ⟨.str _, H, I.kept hk, ⟨_, rfl⟩, q _ _ (Evl.Ex.refl _) (.str _)⟩) (by rw [← LIM_eq]; exact hl)
end
end Ev
end

section
set_option Elab.async false
set_option linter.all false
set_option maxRecDepth 100000
namespace Ev
open PySem L2 PyProof.Rows PySem.W PySem.SeqAt PySem.MeetsSeq
/-! ### tuples, empty ones among them: how they are sorted -/
/-- a value whose data are told -/
abbrev Told (h : PySem.Heap) (v : Value) (d : PyData) : Prop := ∃ as, Reads h v d as
/-- a data tuple's cell, and that it holds as many values as the data say -/
theorem tup_cell {h : PySem.Heap} {v : Value} {xs : List PyData} (t : Told h v (.tuple xs)) :
    ∃ (l : Addr) (o : Obj) (its : Array Value) (n : Nat) (as : List Addr), v = .ref l ∧ h.get? l = some o ∧ o.cls = .type "tuple" ∧ o.data = .seq its n ∧ ReadsAll h its.toList xs as ∧ its.size = xs.length := by
  obtain ⟨as, r⟩ := t
  cases r with
  | tuple at_ kind data all =>
    have same := SeqAt.ReadsAll.length _ _ _ all
    rw [Array.length_toList] at same
    exact ⟨_, _, _, _, _, rfl, at_, kind, data, all, same⟩
theorem less_room {A : Around} {x y : PyData} (u : A.units + x.depth < cLine) : A.units + min x.depth y.depth < cLine := by omega
section
variable {A : Around} {s : Shared} {prog : Program} {w : World}
/-- `<` of two tuples that may be compared, in the way of a sort that knows them to be of one type -/
theorem tup_before {xs ys : List PyData} {a b : Value} {Q : Bool → Shared → Prop} {E : Value → Shared → Prop} (ta : Told s.heap a (.tuple xs)) (tb : Told s.heap b (.tuple ys)) (same : alikeAll xs ys = true)
    (u : A.units + (PyData.tuple xs).depth < cLine) (q : Q (dataLt (.tuple xs) (.tuple ys)) s) : wpAny (model prog w) A (oneLt' true a b) Q E s := by
  obtain ⟨l, ⟨_, da, _, sa⟩, us, n, _, rfl, al, rfl, rfl, ar, an⟩ := tup_cell ta
  obtain ⟨m, ⟨_, db, _, sb⟩, vs, n', _, rfl, bl, rfl, rfl, br, bn⟩ := tup_cell tb
  have u2 := less_room (y := .tuple ys) u
  -- place by place: whether alike, and if not, whether less
  have eqs : ∀ j (hj : j < us.size) (hk : j < vs.size), EqAt A.in1 s us[j] vs[j] (pairEq xs ys j) := fun j hj hk =>
    eqAt_alikeAll xs ys _ s us.toList vs.toList _ _ ar br same (SeqAt.room_in u2) j (Array.length_toList ▸ hj) (Array.length_toList ▸ hk)
  have lts : ∀ j (hj : j < us.size) (hk : j < vs.size), pairEq xs ys j = false → RcLt A.in1 s us[j] vs[j] (dataLt (xs.getD j .none) (ys.getD j .none)) := fun j hj hk ne =>
    rcLt_alikeAll xs ys _ s us.toList vs.toList _ _ ar br same (SeqAt.room_in u2) j (Array.length_toList ▸ hj) (Array.length_toList ▸ hk) ne
  have told : firstLt (pairEq xs ys) (fun j => dataLt (xs.getD j .none) (ys.getD j .none)) (decide (us.size < vs.size)) (List.range (min us.size vs.size)) = dataLt (.tuple xs) (.tuple ys) := by
    rw [an, bn, firstLt_toks xs ys same, dataLt_tuple]
  have ask : wpAny (model prog w) A (call (.builtin "tuple.__lt__") [.ref l, .ref m]) (fun r z => r = .bool (dataLt (.tuple xs) (.tuple ys)) ∧ z = s) E s :=
    call_meets F.slot_tuple_lt ⟨_, al, rfl⟩ F.entry_tuple_lt (F.args_tuple_lt_2 _ _) (tuple_ltAt l m us vs n n' da db sa sb _ _) ⟨al, bl, eqs, lts, told ▸ ⟨rfl, rfl⟩⟩
  rw [oneLt'_eq, if_pos rfl]
  exact wpAny_bind (wpAny_cRoomFor (SeqAt.room_here u2) (wpAny_bind (wpAny_callSpecialIfBound?_slot (T := "tuple") ⟨_, al, rfl⟩ F.slot_tuple_lt (wpAny_mono ask (fun r z h => by
    obtain ⟨rfl, rfl⟩ := h
    exact wpAny_truthy_bool q) fun _ _ e => e))))
end
/-- it has a first item -/
def firstB : PyData → Bool
  | .tuple (_ :: _) => true
  | _ => false
section
variable {M : Model} {A : Around} {s : Shared}
/-- the first item of a tuple, if it has one -/
theorem first_tup {xs : List PyData} {v : Value} {Q : Option Value → Shared → Prop} {E : Value → Shared → Prop} (t : Told s.heap v (.tuple xs)) (q : ∀ f : Option Value, f.isSome = firstB (.tuple xs) → Q f s) : wpAny M A (firstOfTuple' v) Q E s := by
  obtain ⟨l, o, its, n, _, rfl, at_, kind, data, _, size⟩ := tup_cell t
  have look : Looks M s.heap (typeOf (.ref l)) (.type "tuple") := kind ▸ (Looks.ld at_).andThen .now
  rw [kas_first_eq]
  refine wpAny_bind (look.here ?_)
  rw [if_neg (by decide)]
  refine wpAny_bind (listItems_at at_ data (wpAny_pure (q _ ?_)))
  cases xs with
  | nil =>
    have out : its[0]? = none := Array.getElem?_eq_none (Nat.le_of_eq size)
    rw [out]
    rfl
  | cons x xs => rw [Array.getElem?_eq_getElem (size ▸ Nat.succ_pos _), firstB, Option.isSome_some]
theorem firsts_tup : ∀ {vs : List Value} {ds : List PyData} {Q : List (Option Value) → Shared → Prop} {E : Value → Shared → Prop}, EachIs (Told s.heap) vs ds → (∀ d ∈ ds, ∃ xs, d = .tuple xs) →
    (∀ fs : List (Option Value), fs.map (·.isSome) = ds.map firstB → Q fs s) → wpAny M A (vs.mapM firstOfTuple') Q E s
  | _, _, _, _, .nil, _, q => by
    rw [List.mapM_nil]
    exact wpAny_pure (q [] rfl)
  | _, _, _, _, .cons t ts, tups, q => by
    obtain ⟨xs, rfl⟩ := tups _ List.mem_cons_self
    rw [List.mapM_cons]
    refine (wpAny_bind (first_tup t fun f hf => wpAny_bind (firsts_tup ts (fun d hd => tups d (List.mem_cons_of_mem _ hd)) fun fs hfs => wpAny_pure (q _ ?_))))
    rw [List.map_cons, List.map_cons, hf, hfs]
end
section
variable {A : Around} {s : Shared} {prog : Program} {w : World}
/-- which way of comparing list.sort takes where some tuple is empty: it depends on whether the first one is -/
theorem kind_tup {vs : List Value} {ds : List PyData} {Q : SortKind → Shared → Prop} {E : Value → Shared → Prop} (each : EachIs (Told s.heap) vs ds) (tups : ∀ d ∈ ds, ∃ xs, d = .tuple xs) (two : 2 ≤ vs.length) (some_empty : ds.all firstB = false)
    (general : (ds.map firstB)[0]? = some true → Q general' s) (one : (ds.map firstB)[0]? ≠ some true → Q oneType' s) : wpAny (model prog w) A (keyKind' vs.toArray) Q E s := by
  rw [keyKind'_eq, List.mapM_toArray]
  rw [map_eq_pure_bind]
  refine wpAny_bind (wpAny_bind (firsts_tup each tups fun fs hfs => wpAny_pure ?_))
  have whole : fs.toArray.all (·.isSome) = false := by
    have e : fs.all (·.isSome) = ds.all firstB := by
      rw [show fs.all (·.isSome) = (fs.map (·.isSome)).all id by rw [List.all_map]; rfl, hfs, List.all_map]
      rfl
    rw [List.all_toArray, e, some_empty]
  have head : (fs.toArray[0]?.bind id).isSome = true ↔ (ds.map firstB)[0]? = some true := by
    rw [List.getElem?_toArray, ← hfs, List.getElem?_map]
    cases fs[0]? with
    | none => exact ⟨fun h => (by cases h), fun h => (by cases h)⟩
    | some f => cases f <;> exact ⟨fun h => (by cases h <;> rfl), fun h => (by cases h <;> rfl)⟩
  rw [if_neg (Bool.eq_false_iff.mp whole)]
  by_cases h : (ds.map firstB)[0]? = some true
  · rw [if_pos (head.mpr h)]
    exact wpAny_pure (general h)
  · rw [if_neg fun z => h (head.mp z), oneTypeOnly'_eq, List.mapM_toArray]
    rw [map_eq_pure_bind]
    have types : ∀ v ∈ vs, Looks (model prog w) s.heap (typeOf v) (.type "tuple") := fun v hv => by
      have m := each.left v hv
      obtain ⟨d, hd, _, told⟩ := m
      obtain ⟨xs, rfl⟩ := tups d hd
      exact looks_reads told
    refine wpAny_bind (wpAny_bind (wpAny_bind (kas_mapM (r := Value.type "tuple") _ (fun v hv Q' hq => (types v hv).here hq) (wpAny_pure ?_))))
    match vs, two with
    | v :: us, _ =>
      have all_tuple : ((v :: us).map fun _ => Value.type "tuple").toArray.all (· == Value.type "tuple") = true := by
        rw [List.all_toArray, List.all_eq_true]
        intro t ht
        obtain ⟨_, _, rfl⟩ := List.mem_map.mp ht
        exact beq_self_eq_true _
      have at0 : ((v :: us).map fun _ => Value.type "tuple").toArray[0]? = some (.type "tuple") := rfl
      rw [at0]
      dsimp only
      rw [if_pos all_tuple]
      exact wpAny_pure (wpAny_pure (one h))
theorem sorts_tup {vs : List Value} {ds : List PyData} (each : EachIs (Told s.heap) vs ds) (hal : AllAlike ds) (tups : ∀ d ∈ ds, ∃ xs, d = .tuple xs) (u : ∀ d ∈ ds, A.units + d.depth < cLine) : SortsAt prog w A s (dataKind s.heap ds) vs := by
  by_cases none_empty : ds.all firstB = true
  · refine SortsAt.data each hal (.inl fun d hd => ?_) u
    have f := List.all_eq_true.mp none_empty d hd
    obtain ⟨xs, rfl⟩ := tups d hd
    match xs, f with
    | x :: r, _ => exact ⟨x, r, rfl⟩
  · have keys : ∀ v ∈ vs, ∃ k, (dataKind s.heap ds).keyOf v = some k := fun v hv =>
      have ⟨_, hd, _, r⟩ := each.left v hv
      ⟨_, dataKind_some hal hd r⟩
    have empty := Bool.eq_false_iff.mpr none_empty
    by_cases h : (ds.map firstB)[0]? = some true
    · refine ⟨keys, general', fun E x y a b Q ha hb q => ?_, fun two E Q q => kind_tup each tups two empty (fun _ => q) fun z => absurd h z⟩
      have ⟨d, _, hd, ra, ea⟩ := dataKind_inv ha
      have ⟨e, _, he, rb, eb⟩ := dataKind_inv hb
      subst ea eb
      obtain ⟨xs, rfl⟩ := tups d hd
      exact oneLt_alike (f := false) nofun ra rb (hal _ hd e he) nofun (less_room (u _ hd)) q
    · refine ⟨keys, oneType', fun E x y a b Q ha hb q => ?_, fun two E Q q => kind_tup each tups two empty (fun z => absurd z h) fun _ => q⟩
      have ⟨d, _, hd, ra, ea⟩ := dataKind_inv ha
      have ⟨e, _, he, rb, eb⟩ := dataKind_inv hb
      subst ea eb
      obtain ⟨xs, rfl⟩ := tups d hd
      obtain ⟨ys, rfl⟩ := tups e he
      rw [keyLt'_oneType]
      exact tup_before ⟨_, ra⟩ ⟨_, rb⟩ (hal _ hd _ he) (u _ hd) q
end
end Ev
end

section
set_option Elab.async false
set_option linter.all false
set_option maxRecDepth 100000
namespace Ev
open PySem L2 PyProof.Rows PySem.W
/-! ### sorted(x), x a list or a tuple -/
section
variable {A : Around} {s : Shared} {prog : Program} {w : World}
/-- the new list that sorted(..) sorts, on top of z's heap -/
abbrev laidOut (z : Shared) (vs : List Value) : PySem.Heap := z.heap.push (seqObj "list" vs.toArray 0)
/-- sorted(x), whatever x is: its values are collected (C), laid out and sorted in place -/
theorem sorted_from {x : Value} {C : List Value → Shared → Prop} {Q E : Value → Shared → Prop} (gather : wpAny (model prog w) A.in1 (collect x) C E s)
    (rest : ∀ vs z, C vs z → vs.length ≤ sizeLine ∧ ∃ κ : PyProof.Rows.KeyKind, SortsAt prog w A.in1.in1 { z with heap := sortingHeap (laidOut z vs) z.heap.objs.size vs } κ vs ∧
      Q (.ref z.heap.objs.size) { z with heap := sortedHeap (laidOut z vs) z.heap.objs.size vs (sortVals κ false vs vs).toArray }) :
    wpAny (model prog w) A (call (.builtin "sorted") [x]) Q E s := by
  have body : wpAny (model prog w) A.in1 (Builtin.«sorted» ⟨[x], []⟩) (fun f z => ∃ v, f = .done (.ret v) ∧ Q v z) E s :=
    wpAny_bind (wpAny_pure (wpAny_bind (wpAny_mono gather (fun vs z c => by
      obtain ⟨few, κ, S, q⟩ := rest vs z c
      have top : (laidOut z vs).get? z.heap.objs.size = some (seqObj "list" vs.toArray 0) := Heap.get?_push_size _ rfl
      have srt := list_sort_vals (s := { z with heap := laidOut z vs }) (P := fun f y => ∃ v, f = .done (.ret v) ∧ ∃ u, PySem.Fin.done (PySem.Flow.ret (.ref z.heap.objs.size)) = .done (.ret u) ∧ Q u y) (E := E) top S few ⟨.none, rfl, _, rfl, q⟩
      exact wpAny_bind (wpAny_newList (wpAny_bind (wpAny_holding (wpAny_mono (wpAny_call_entry slot_list_sort ⟨_, top, rfl⟩ entry_list_sort srt (args_list_sort _)) (fun _ _ h => wpAny_pure h) fun _ _ e => e))) few)) fun _ _ e => e)))
  exact PySem.Calls.call_function_entry kind_sorted plain_sorted entry_sorted (args_sorted1 x) body
/-- what stood before stands while it is sorted, and behind it -/
theorem laid_keeps {z : Shared} {vs : List Value} {b : Addr} {o : Obj} (e : z.heap.get? b = some o) : (sortingHeap (laidOut z vs) z.heap.objs.size vs).get? b = some o ∧ ∀ out, (sortedHeap (laidOut z vs) z.heap.objs.size vs out).get? b = some o := by
  have lt := Heap.lt_size e
  have e2 : (laidOut z vs).get? b = some o := Heap.get?_push_of_some _ e
  refine ⟨sortingHeap_old (Nat.ne_of_lt lt) e2, fun out => ?_⟩
  have old := sortedHeap_old (h := laidOut z vs) (vs := vs) (out := out) (Nat.ne_of_lt lt) (Heap.lt_size e2)
  exact old.trans e2
end
section
variable {K : PySem.W.Frag} {Fb : Addr → Prop} {m : List Addr} {H : Hp} {X : Cx}
theorem each_reads {h : PySem.Heap} : ∀ {us : List Value} {ds : List PyData} {as : List Addr}, ReadsAll h us ds as → EachIs (fun v d => ∃ as, Reads h v d as) us ds
  | _, _, _, .nil => .nil
  | _, _, _, .cons r t => .cons ⟨_, r⟩ (each_reads t)
/-- a value, what stands for it, what it is -/
def Stand (K : PySem.W.Frag) (Fb : Addr → Prop) (m : List Addr) (H : Hp) (u : Value) (p : V × D) : Prop := RelV p.1 u ∧ Rep K Fb m H p.1 p.2
theorem each_stand : ∀ {vs : List V} {us : List Value} {ds : List D}, Vals vs us → RepL K Fb m H vs ds → EachIs (Stand K Fb m H) us (vs.zip ds)
  | _, _, _, .nil, .nil => .nil
  | _, _, _, .cons r t, .cons q s => .cons ⟨r, q⟩ (each_stand t s)
theorem stand_out : ∀ {us : List Value} {ps : List (V × D)}, EachIs (Stand K Fb m H) us ps → Vals (ps.map (·.1)) us ∧ RepL K Fb m H (ps.map (·.1)) (ps.map (·.2))
  | _, _, .nil => ⟨.nil, .nil⟩
  | _, _, .cons h t => ⟨.cons h.1 (stand_out t).1, .cons h.2 (stand_out t).2⟩
theorem zip_snd {α β : Type} : ∀ {l : List α} {k : List β}, l.length = k.length → (l.zip k).map (·.2) = k
  | [], [], _ => rfl
  | _ :: _, _ :: _, h => congrArg (_ :: ·) (zip_snd (Nat.succ.inj h))
  | [], _ :: _, h => by cases h
  | _ :: _, [], h => by cases h
theorem pys_map : ∀ ds : List D, D.pys ds = ds.map D.py
  | [] => rfl
  | d :: ds => congrArg (D.py d :: ·) (pys_map ds)
theorem srt_conds {ds es : List D} (h : srtL ds = some es) : D.plains ds = true ∧ AllAlike (D.pys ds) ∧ ((∀ d ∈ D.pys ds, ∃ xs, d = PyData.tuple xs) ∨ Sortable (D.pys ds)) ∧ (∀ d ∈ D.pys ds, d.depth ≤ 64) ∧ ds.length ≤ LIM ∧ es = ds.mergeSort leD := by
  unfold srtL at h
  simp only [Option.ite_none_right_eq_some, Option.some.injEq, andI, decI, List.all_eq_true] at h
  obtain ⟨⟨⟨⟨⟨h1, h2⟩, h3⟩, h4⟩, h5⟩, rfl⟩ := h
  rw [pys_map]
  refine ⟨h1, fun d hd e he => ?_, ?_, fun d hd => ?_, h5, rfl⟩
  · obtain ⟨x, hx, rfl⟩ := List.mem_map.mp hd
    obtain ⟨y, hy, rfl⟩ := List.mem_map.mp he
    exact h2 x hx y hy
  · unfold sortB at h3
    rw [Bool.or_eq_true, List.all_eq_true, List.all_eq_true] at h3
    rcases h3 with h3 | h3
    · refine .inl fun d hd => ?_
      obtain ⟨x, hx, rfl⟩ := List.mem_map.mp hd
      have := h3 x hx
      cases x with
      | tup xs => exact ⟨D.pys xs, rfl⟩
      | _ => cases this
    · refine .inr (.inr fun d hd => ?_)
      obtain ⟨x, hx, rfl⟩ := List.mem_map.mp hd
      have := h3 x hx
      cases x with
      | tup xs => cases this
      | non => cases this
      | ref k =>
        have hp : ∀ {ds : List D}, D.plains ds = true → D.ref k ∈ ds → False := fun {ds} hp hm => by
          induction ds with
          | nil => cases hm
          | cons a ds ih =>
            have hp := (Bool.and_eq_true _ _).mp (show (D.plain a && D.plains ds) = true from hp)
            rcases List.mem_cons.mp hm with z | z
            · rw [← z] at hp
              cases hp.1
            · exact ih hp.2 z
        exact (hp h1 hx).elim
      | _ => exact ⟨fun e => (by cases e), fun xs e => (by cases e)⟩
  · obtain ⟨x, hx, rfl⟩ := List.mem_map.mp hd
    rw [py_depth]
    exact h4 x hx
theorem rc_sorted (hu : X.A.units + 66 < cLine) : CallR X (.builtin "sorted") (rC1 X.K reprL .sorted) := by
  rintro pins s σ H xs us Q I r ⟨x, rfl, Fb, m, d, r', hf, hx, ho, q⟩
  obtain ⟨u, rfl, rx⟩ := Vals.one r
  have key : ∀ (a : Addr) (vs : List V) (ds es : List D) (its : List Value) (T : String) (o : Obj) (n : Nat), u = .ref a → srtL ds = some es → r' = .lst es → RepL X.K Fb m H vs ds → Vals vs its → (T = "list" ∨ T = "tuple") → s.heap.get? a = some o → o.cls = .type T → o.data = .seq its.toArray n →
      wpAny (model X.prog X.w) X.A (call (.builtin "sorted") [u]) (EP X pins σ Q) X.xe s := by
    rintro a vs ds es its T o n rfl hs rfl rv r1 hT hob hc hdt
    obtain ⟨pl, hal, hsb, hdp, hl, rfl⟩ := srt_conds hs
    obtain ⟨as, rds⟩ := Dp.readsAll I (D.pys ds) vs its (rv.dp pl) r1
    have hlen : its.length ≤ sizeLine := by
      rw [← r1.length, rv.length, ← LIM_eq]
      exact hl
    have er : ∀ h' : PySem.Heap, (∀ b o, s.heap.get? b = some o → h'.get? b = some o) → EachIs (fun v d => ∃ as, Reads h' v d as) its (D.pys ds) := fun h' k => (each_reads rds).mono fun v d ⟨as, q⟩ => ⟨as, Reads.keeps k q⟩
    have room : ∀ d ∈ D.pys ds, X.A.in1.in1.units + d.depth < cLine := fun d hd => by
      have d64 := hdp d hd
      have two : X.A.in1.in1.units = X.A.units + 2 := rfl
      omega
    have few : its.toArray.size ≤ sizeLine := by rw [List.size_toArray]; exact hlen
    refine sorted_from (C := fun us z => us = its ∧ ∃ h' : PySem.Heap, z = { s with heap := h' } ∧ ∀ b o, s.heap.get? b = some o → h'.get? b = some o) (wpAny_collect_seq a hT hob hc hdt (fun h' k => ⟨rfl, h', rfl, k⟩) few) ?_
    rintro us z ⟨rfl, h', rfl, k⟩
    generalize hHP : sortingHeap (laidOut { s with heap := h' } us) h'.objs.size us = HP
    have keep : ∀ b o, s.heap.get? b = some o → HP.get? b = some o := fun b o e => hHP ▸ (laid_keeps (z := { s with heap := h' }) (k b o e)).1
    have S : SortsAt X.prog X.w X.A.in1.in1 { s with heap := HP } (dataKind HP (D.pys ds)) us :=
      hsb.elim (fun ht => sorts_tup (s := { s with heap := HP }) (er _ keep) hal ht room) fun hsb => SortsAt.data (s := { s with heap := HP }) (er _ keep) hal hsb room
    refine ⟨hlen, dataKind HP (D.pys ds), hHP ▸ S, ?_⟩
    have e1 := each_stand r1 rv
    have e0 : D.pys ds = (vs.zip ds).map fun b : V × D => D.py b.2 := by
      rw [pys_map]
      conv => lhs; rw [← zip_snd (l := vs) (k := ds) rv.length]
      rw [List.map_map]
      rfl
    have h1 : EachIs (fun v d => (dataKind HP (D.pys ds)).keyOf v = some (keyToks d)) us ((vs.zip ds).map fun b : V × D => D.py b.2) := by
      rw [← e0]
      exact each_keys hal (er _ keep)
    have out := sortVals_each (κ := dataKind HP (D.pys ds)) (rev := false) (fun b : V × D => (keyToks (D.py b.2) : (dataKind HP (D.pys ds)).α)) e1 (each_of_map (fun b : V × D => D.py b.2) h1)
    generalize hps : (vs.zip ds).mergeSort (sortLe (dataKind HP (D.pys ds)).toKeyOrd false fun b : V × D => (keyToks (D.py b.2) : (dataKind HP (D.pys ds)).α)) = ps at out
    have e2 : ps.map (·.2) = ds.mergeSort leD := by
      have e3 := sort_maps (r := sortLe (dataKind HP (D.pys ds)).toKeyOrd false fun b : V × D => (keyToks (D.py b.2) : (dataKind HP (D.pys ds)).α)) (s := leD) (fun b : V × D => b.2) (l := vs.zip ds) fun _ _ _ _ => rfl
      rw [hps, zip_snd rv.length] at e3
      exact e3
    obtain ⟨o1, o2⟩ := stand_out out
    rw [e2] at o2
    obtain ⟨ep, he⟩ := sortedHeap_at (h := laidOut { s with heap := h' } us) (a := h'.objs.size) (n := 0) (vs := us) (out := (sortVals (dataKind HP (D.pys ds)) false us us).toArray) (Heap.get?_push_size _ rfl)
    have hsz : (ps.map (·.1)).length ≤ sizeLine := by
      rw [o2.length, List.length_mergeSort, ← LIM_eq]
      exact hl
    have J : L2.Inv X pins σ H { s with heap := h' } := I.kept (t' := s.toks) k
    have hn : H h'.objs.size = none := J.hok.fresh (Nat.le_refl _)
    exact ⟨.ref _, upd H h'.objs.size (.lst (ps.map (·.1))), J.laid (t' := s.toks) (fun b o e => (laid_keeps (z := { s with heap := h' }) e).2 _) (Nat.le_refl _) ⟨hsz, _, ep, o1, he⟩, rfl, q _ _ (Evl.Ex.new hn) (rep_new_lst hf hn o2)⟩
  cases d with
  | lst ds =>
    obtain ⟨es, hs, rfl⟩ := Option.map_eq_some_iff.mp (show (srtL ds).map D.lst = some r' from ho)
    obtain ⟨a, vs, rfl, hv, rv⟩ := hx.lst_inv
    obtain ⟨its, r1, p, hz⟩ := I.list hv
    obtain ⟨o, h1, h2, n, h3⟩ := p.isList
    obtain rfl : u = .ref a := rx
    exact key a vs ds es its "list" o n rfl hs rfl rv r1 (.inl rfl) h1 h2 h3
  | tup ds =>
    obtain ⟨es, hs, rfl⟩ := Option.map_eq_some_iff.mp (show (srtL ds).map D.lst = some r' from ho)
    obtain ⟨a, vs, rfl, hv, rv⟩ := hx.tup_inv
    obtain ⟨its, r1, p, hz⟩ := I.tuple hv
    obtain ⟨o, h1, h2, n, h3⟩ := p
    obtain rfl : u = .ref a := rx
    exact key a vs ds es its "tuple" o n rfl hs rfl rv r1 (.inr rfl) h1 h2 h3
  | _ => cases ho
end
end Ev
end

section
set_option Elab.async false
set_option linter.all false
set_option maxRecDepth 100000
namespace Ev
open PySem L2
theorem fold_rep (xs : Array Nat) : ∀ (n : Nat) (acc : Array Nat), List.foldl (· ++ ·) acc (List.replicate n xs) = acc ++ (List.replicate n xs.toList).flatten.toArray
  | 0, acc => by simp
  | n + 1, acc => by
    rw [List.replicate_succ, List.foldl_cons, fold_rep xs n, List.replicate_succ, List.flatten_cons]
    apply Array.toList_inj.mp
    simp
/-! a tuple times an int: itself, or nothing -/
/-- a tuple's cell -/
abbrev tupCell (its : Array Value) (n : Nat) (dict : Option Addr) (slots : Array (Option Value)) : Obj := { cls := .type "tuple", dict, data := .seq its n, slots }
abbrev emptyTup : Obj := { cls := .type "tuple", data := .seq #[] }
/-- x is an index -/
abbrev Fits63 (x : Int) : Prop := (decide (x < -(2 ^ 63)) || decide (x ≥ 2 ^ 63)) = false
theorem fits1000 {x : Int} (lo : -1000 ≤ x) (hi : x ≤ 1000) : Fits63 x := by
  refine Bool.or_eq_false_iff.mpr ⟨decide_eq_false ?_, decide_eq_false ?_⟩ <;> omega
section
variable {l : Addr} {its : Array Value} {n : Nat} {dict : Option Addr} {slots : Array (Option Value)} {x : Int} {tok : Tok}
/-- nothing to repeat, or once: the tuple itself -/
theorem times_same (fits : Fits63 x) (same : (its.isEmpty || x == 1) = true) : Meets (Builtin.«tuple.__mul__» ⟨[.ref l, .int x tok], []⟩) fun _ R s => s.heap.get? l = some (tupCell its n dict slots) ∧ R (.ok (.ret (.ref l))) s :=
  .of_wp fun P w A R ⟨h, gens, drawn, toks, os⟩ ⟨cell, answer⟩ => by
    have index := AutoSeq1.idx_int
    wp_walk using (wpAny_loadPart' cell)
    refine wpAny_ite_false (decide_eq_false fun big => Bool.false_ne_true (fits.symm.trans big)) ?_
    wp_walk using (wpAny_loadPart' cell)
    exact ⟨_, rfl, answer⟩
/-- not once, and no times at all: a new empty tuple -/
theorem times_none (fits : Fits63 x) (other : (its.isEmpty || x == 1) = false) (none : (decide (x ≤ 0) || its.isEmpty) = true) :
    Meets (Builtin.«tuple.__mul__» ⟨[.ref l, .int x tok], []⟩) fun _ R s => s.heap.get? l = some (tupCell its n dict slots) ∧ R (.ok (.ret (.ref s.heap.objs.size))) { s with heap := s.heap.push emptyTup } :=
  .of_wp fun P w A R ⟨h, gens, drawn, toks, os⟩ ⟨cell, answer⟩ => by
    have index := AutoSeq1.idx_int
    wp_walk using (wpAny_loadPart' cell)
    refine wpAny_ite_false (decide_eq_false fun big => Bool.false_ne_true (fits.symm.trans big)) ?_
    wp_walk using (wpAny_loadPart' cell)
    exact ⟨_, rfl, answer⟩
end
section
variable {X : Cx}
/-- t * k asks int.__rmul__, which passes, and then tuple.__mul__ -/
theorem times_asks {P : Program} {w : World} {A : Around} {s : Shared} {Q E : Value → Shared → Prop} {l : Addr} {its : Array Value} {n : Nat} {dict : Option Addr} {slots : Array (Option Value)} {x : Int} {tok : Tok} {S : Spec} (cell : s.heap.get? l = some (tupCell its n dict slots))
    (does : Meets (Builtin.«tuple.__mul__» ⟨[.ref l, .int x tok], []⟩) S) (done : S A (wants Q E) s) : wpAny (model P w) A (binaryOp .Mult (.ref l) (.int x tok)) Q E s :=
  have tuple : s.TypeIs (.ref l) "tuple" := ⟨_, cell, rfl⟩
  have asked : wpAny (model P w) A (call (.builtin "tuple.__mul__") [.ref l, .int x tok]) Q E s := call_meets F.slot_tuple_mul tuple F.entry_tuple_mul (F.args_tuple_mul_2 _ _) does done
  have passed := call_meets F.slot_int_rmul (typeIs_int s x tok) F.entry_int_rmul (F.args_int_rmul_2 _ _) (int_rmul_tuple x tok l its n dict slots) ⟨cell, rfl, tuple, asked⟩
  wpAny_binaryOp_repeat_ref (by decide) tuple (fun z => typeIs_int z x tok) noFill_tuple_mul F.fills_int_mul F.slot_int_rmul repeat_tuple F.slot_int_index.lookup passed
theorem mul_tuple {pins : List (Addr × Obj)} {σ : St} {H : Hp} {s : Shared} {a : Addr} {vs : List V} {k : Int} {v u : Value} {Q : VK} (I : Inv X pins σ H s) (rx : RelV (.ref a) v) (ry : RelV (.int k) u) (row : SqT X.K H a vs)
    (lo : -1000 ≤ k) (hi : k ≤ 1000) (few : vs.length ≤ 1000) (same : (List.replicate k.toNat vs).flatten = vs → Q (.ref a) H) (q : ∀ p, H p = none → Q (.ref p) (upd H p (.tup (List.replicate k.toNat vs).flatten))) :
    wpAny (model X.prog X.w) X.A (binaryOp .Mult v u) (EP X pins σ Q) X.xe s := by
  by_cases many : vs ≠ [] ∧ 2 ≤ k
  · exact op_repT pins s σ H _ _ v u Q I rx ry ⟨a, k, vs, rfl, rfl, row, many.1, many.2, hi, few, q⟩
  obtain ⟨its, rel, ⟨⟨cls, dict, data, slots⟩, cell, kind, n, items⟩, _⟩ := I.tuple row
  dsimp only at kind items
  subst kind items
  cases rx
  obtain ⟨tok, rfl⟩ := ry
  have empty : its.toArray.isEmpty = true ↔ vs = [] := by
    cases rel
    · exact ⟨fun _ => rfl, fun _ => rfl⟩
    · exact ⟨fun h => (by cases h), fun h => (by cases h)⟩
  by_cases itself : vs = [] ∨ k = 1
  · have e : (List.replicate k.toNat vs).flatten = vs := by rcases itself with rfl | rfl <;> simp
    have b : (its.toArray.isEmpty || k == 1) = true := by rw [Bool.or_eq_true, empty, beq_iff_eq]; exact itself
    exact times_asks cell (times_same (fits1000 lo hi) b) ⟨cell, ⟨.ref a, H, I, rfl, same e⟩⟩
  · have ne : vs ≠ [] := fun e => itself (.inl e)
    have zero : k ≤ 0 := by
      have n1 : k ≠ 1 := fun e => itself (.inr e)
      have n2 : ¬2 ≤ k := fun h => many ⟨ne, h⟩
      omega
    have b : (its.toArray.isEmpty || k == 1) = false := Bool.eq_false_iff.mpr fun h => by
      rw [Bool.or_eq_true, empty, beq_iff_eq] at h
      exact itself h
    have c : (decide (k ≤ 0) || its.toArray.isEmpty) = true := by rw [decide_eq_true zero, Bool.true_or]
    refine times_asks cell (times_none (fits1000 lo hi) b c) ⟨cell, ⟨.ref s.heap.objs.size, _, I.laid (t' := s.toks) (o := .tup []) (fun b ob e => Heap.get?_push_of_some emptyTup e) (Nat.le_refl _) ⟨Nat.zero_le _, [], .nil, PyProof.Rows.IsTup.new _ _⟩, rfl, ?_⟩⟩
    have free := q _ (I.hok.fresh (Nat.le_refl _))
    rwa [Int.toNat_of_nonpos zero] at free
theorem mulOk_or {i j : Int} (h : mulOk i j = true) : CMul i j ∨ CMulW i j := by
  unfold mulOk at h
  simp only [Bool.or_eq_true, decide_eq_true_eq] at h
  rcases h with (h | h) | h
  · exact .inl (.inl (by omega))
  · exact .inl (.inr (by omega))
  · exact .inr h
theorem mulOk_ok {i j : Int} (h : mulOk i j = true) : IntMulOk i j := (mulOk_or h).elim CMul.ok CMulW.ok
theorem ro_mul : OpR X (binaryOp .Mult) (rO2 X.K .mul) := by
  rintro pins s σ H x y v u Q I rx ry ⟨Fb, m, d, e, r, hf, hx, hy, ho, q⟩
  cases d <;> cases e <;> simp only [o2, reduceCtorEq, Option.some.injEq, Option.ite_none_right_eq_some, repOk, Bool.and_eq_true, decide_eq_true_eq] at ho
  · obtain ⟨hm, rfl⟩ := ho
    obtain rfl := hx.int_inv
    obtain rfl := hy.int_inv
    rcases mulOk_or hm with hm | hm
    · exact op_mul pins s σ H _ _ v u Q I rx ry ⟨_, _, rfl, rfl, hm, q _ _ (Evl.Ex.refl _) (.int _)⟩
    · exact op_mulW pins s σ H _ _ v u Q I rx ry ⟨_, _, rfl, rfl, hm, q _ _ (Evl.Ex.refl _) (.int _)⟩
  · rename_i z k
    obtain ⟨⟨⟨h1, h2⟩, h3⟩, rfl⟩ := ho
    obtain rfl := hx.str_inv
    obtain rfl := hy.int_inv
    obtain ⟨t, rfl⟩ := rx
    obtain ⟨t', rfl⟩ := ry
    have hlen : z.length ≤ 1000 := h1
    have hmul : k.toNat * z.length ≤ 1000 * 1000 := Nat.mul_le_mul (by omega) hlen
    refine PySem.P.mul_str (by rw [decide_eq_false (by omega), decide_eq_false (by omega)]; rfl) (fun a b => ?_) (fun a b => ?_) ?_
    · have hk0 : (0 : Int) < k := by omega
      have : (1000 : Int) ≤ (2 ^ 63 - 1) / k := (Int.le_ediv_iff_mul_le hk0).mpr (by omega)
      omega
    · unfold Builtin.Str.tooLong
      rw [sizeLine_eq]
      have hc : z.length * k.toNat ≤ 1000000 := by rw [Nat.mul_comm]; exact hmul
      first
        | exact decide_eq_false (by omega)
        | simp; omega
    · have fin : ∀ (y : Str) (tk : Tok), y = ⟨(List.replicate k.toNat z.cps.toList).flatten.toArray⟩ → ∀ n, EP X pins σ Q (.str y tk) { s with toks := n } := fun y tk e n => by
        rw [e]
        exact ⟨.str _, H, I.tok n, ⟨_, rfl⟩, q _ _ (Evl.Ex.refl _) (.str _)⟩
      by_cases hk : k < 1
      · rw [if_pos hk]
        refine ⟨by decide, fin _ _ ?_ _⟩
        have e0 : k.toNat = 0 := by omega
        rw [e0]
        rfl
      · rw [if_neg hk]
        by_cases hz : (k == 1 || z.length == 0) = true
        · rw [if_pos hz]
          refine fin _ _ ?_ s.toks
          rcases Bool.or_eq_true_iff.mp hz with e | e
          · obtain rfl := beq_iff_eq.mp e
            simp
          · have e0 : z.cps = #[] := Array.size_eq_zero_iff.mp (beq_iff_eq.mp e)
            cases z
            simp only at e0
            subst e0
            simp
        · rw [if_neg hz]
          refine ⟨?_, fin _ _ ?_ _⟩
          · show Array.size _ ≤ sizeLine
            rw [fold_rep, Array.size_append, List.size_toArray, List.size_toArray, sizeLine_eq]
            have : ((List.replicate k.toNat z.cps.toList).flatten).length = k.toNat * z.length := by
              rw [List.length_flatten, List.map_replicate, List.sum_replicate_nat]
              rfl
            rw [this]
            show 0 + _ ≤ _
            omega
          · rw [fold_rep]
            simp
  · rename_i ds k
    obtain ⟨⟨⟨h1, h2⟩, h3⟩, rfl⟩ := ho
    obtain ⟨a, vs, rfl, hv, rv⟩ := hx.tup_inv
    obtain rfl := hy.int_inv
    refine mul_tuple I rx ry hv h3 h2 (by rw [rv.length]; exact h1) (fun e => ?_) fun p hp => q _ _ (Evl.Ex.new hp) (rep_new_tup hp (rv.rep _))
    have := rv.rep k.toNat
    rw [e] at this
    exact q _ _ (Evl.Ex.refl _) (.tup hv this)
end
end Ev
end

section
set_option Elab.async false
set_option linter.all false
set_option maxRecDepth 100000
namespace Ev
open PySem L2

/-- a list that stands while the cells change: tracked and no cell, or written -/
def Bor (K : PySem.W.Frag) (m : List Addr) (H : Hp) (a : Addr) (vs : List V) : Prop := (Rd H a (.lst vs) ∧ a ∉ m) ∨ SqL K (fun _ => none) a vs
theorem written_sql {K : PySem.W.Frag} {H : Hp} {a : Addr} {vs : List V} (h : SqL K (fun _ => none) a vs) : SqL K H a vs := by
  obtain (h | ⟨o, h⟩) | h := h
  · cases h
  · cases h
  · exact .inr h
theorem Bor.sql {K : PySem.W.Frag} {m : List Addr} {H : Hp} {a : Addr} {vs : List V} (h : Bor K m H a vs) : SqL K H a vs := by
  rcases h with ⟨h, _⟩ | h
  · exact .inl h
  · exact written_sql h
/-- seen for a moment, while expressions go on -/
inductive RepW (K : PySem.W.Frag) (Fb : Addr → Prop) (m : List Addr) (H : Hp) : V → D → Prop
  | of {v : V} {d : D} : Rep K Fb m H v d → RepW K Fb m H v d
  | lst {a : Addr} {vs : List V} {ds : List D} : Bor K m H a vs → RepL K Fb m H vs ds → RepW K Fb m H (.ref a) (.lst ds)

/-- what stays as it is while a def's body runs: what must not be caught, the heap at the entry, the cells then -/
structure Gh where
  Pr : Addr → Prop
  H0 : Hp
  m0 : List Addr
/-- the tables of code objects that the program writes as it runs -/
class TabList where
  T : List (Addr × Str)
variable [TabList]
/-- no table of code objects -/
def NT (o : HO) : Prop := ∀ ps, o ≠ .tbl ps
def isOwn (env : Env) (σ : St) (a : Addr) : Prop := ∃ (i : Nat) (d : D), env[i]? = some (.own d) ∧ σ[i]? = some (some (.ref a))
def Fbd (g : Gh) (env : Env) (σ : St) (m : List Addr) : Addr → Prop := fun a => g.Pr a ∨ isOwn env σ a ∨ a ∈ m
def SlotOk (K : PySem.W.Frag) (g : Gh) (env : Env) (m : List Addr) (σ : St) (H : Hp) (i : Nat) : Sl → Prop
  | .none => True
  | .val d => ∃ v, σ[i]? = some (some v) ∧ Rep K (Fbd g env σ m) m H v d
  | .own d => ∃ a vs ds, σ[i]? = some (some (.ref a)) ∧ d = .lst ds ∧ H a = some (.lst vs) ∧ RepL K (Fbd g env σ m) m H vs ds ∧ g.H0 a = none ∧ a ∉ m ∧ ¬ g.Pr a
  | .bor d => ∃ a vs ds, σ[i]? = some (some (.ref a)) ∧ d = .lst ds ∧ Bor K m H a vs ∧ RepL K (Fbd g env σ m) m H vs ds ∧ (g.H0 a = none → SqL K (fun _ => none) a vs)
/-- env, hp stand for σ, H -/
structure StRel (K : PySem.W.Frag) (g : Gh) (env : Env) (hp : Heap) (m : List Addr) (σ : St) (H : Hp) : Prop where
  len : env.length = σ.length
  slots : ∀ i x, env[i]? = some x → SlotOk K g env m σ H i x
  apart : ∀ (i j : Nat) (d e : D) (a : Addr), env[i]? = some (.own d) → env[j]? = some (.own e) → σ[i]? = some (some (.ref a)) → σ[j]? = some (some (.ref a)) → i = j
  cells : m.length = hp.length
  cell : ∀ (k : Nat) (xs : List D), hp[k]? = some xs → ∃ a vs, m[k]? = some a ∧ H a = some (.lst vs) ∧ RepL K (Fbd g env σ m) m H vs xs
  nd : m.Nodup
  pr : ∀ a, g.Pr a → H a ≠ none
  frame : ∀ a o, g.H0 a = some o → a ∉ g.m0 → NT o → H a = some o
  more : ∃ r, m = g.m0 ++ r ∧ ∀ a ∈ r, g.H0 a = none
  tabs : LamX.Tabs TabList.T H
  has : ∀ a, g.H0 a ≠ none → H a ≠ none
/-- what an expression may do to the heap -/
structure Step (m : List Addr) (H : Hp) (m' : List Addr) (H' : Hp) : Prop where
  more : ∃ r, m' = m ++ r ∧ ∀ a ∈ r, H a = none
  keep : ∀ a o (_ : H a = some o) (_ : a ∉ m) (_ : NT o := by intro ps z; cases z), H' a = some o
  there : ∀ a o, H a = some o → ∃ o', H' a = some o'
  tabs : ∀ T, LamX.Tabs T H → LamX.Tabs T H'
theorem has_ext {H H' : Hp} (e : Ext H H') {a : Addr} (h : H a ≠ none) : H' a ≠ none := by
  cases q : H a with
  | none => exact absurd q h
  | some o =>
    rw [e a o q]
    simp
theorem has_upd {H : Hp} {a b : Addr} {o : HO} (h : H b ≠ none) : upd H a o b ≠ none := by
  by_cases e : b = a
  · rw [e, upd_same]
    simp
  · rw [upd_ne e]
    exact h
theorem tabs_upd {T : List (Addr × Str)} {H : Hp} {a : Addr} {o : HO} (t : LamX.Tabs T H) (ha : H a = none ∨ ∃ xs, H a = some (.lst xs)) : LamX.Tabs T (upd H a o) := fun p hp => by
  have ne : ∀ {b : Addr} {u : HO}, H b = some u → (∀ xs, u ≠ .lst xs) → b ≠ a := fun {b u} h n e => by
    subst e
    rcases ha with z | ⟨xs, z⟩
    · rw [z] at h
      cases h
    · rw [z] at h
      exact n xs (Option.some.inj h).symm
  obtain ⟨ps, h1, h2, h3⟩ := t p hp
  refine ⟨ps, by rw [upd_ne (ne h1 fun _ e => by cases e)]; exact h1, h2, fun pos cv hc => ?_⟩
  have ⟨c, e1, e2⟩ := h3 pos cv hc
  refine ⟨c, e1, ?_⟩
  rw [upd_ne (ne e2 fun _ e => by unfold LamX.CodeO at e; cases e)]
  exact e2
section
variable {K : PySem.W.Frag} {g : Gh} {env : Env} {hp hp' : Heap} {m m' m'' : List Addr} {σ : St} {H H' H'' : Hp}
theorem Step.refl : Step m H m H := ⟨⟨[], by simp, by simp⟩, fun _ _ h _ _ => h, fun _ o h => ⟨o, h⟩, fun _ t => t⟩
theorem Step.ext (e : Ext H H') : Step m H m H' := ⟨⟨[], by simp, by simp⟩, fun a o h _ _ => e a o h, fun a o h => ⟨o, e a o h⟩, fun _ t => t.ext e⟩
theorem Step.trans (a : Step m H m' H') (b : Step m' H' m'' H'') : Step m H m'' H'' := by
  obtain ⟨⟨r, e1, f1⟩, k1, t1, u1⟩ := a
  obtain ⟨⟨q, e2, f2⟩, k2, t2, u2⟩ := b
  subst e1 e2
  refine ⟨⟨r ++ q, by simp, fun x hx => ?_⟩, fun x o h n nt => ?_, fun x o h => ?_, fun T t => u2 T (u1 T t)⟩
  · obtain h | h := List.mem_append.mp hx
    · exact f1 x h
    · cases e : H x with
      | none => rfl
      | some o =>
        obtain ⟨o', h'⟩ := t1 x o e
        rw [f2 x h] at h'
        cases h'
  · refine k2 x o (k1 x o h n nt) (fun hm => ?_) nt
    obtain z | z := List.mem_append.mp hm
    · exact n z
    · rw [f1 x z] at h
      cases h
  · obtain ⟨o', h'⟩ := t1 x o h
    exact t2 x o' h'
theorem Step.fresh (s : Step m H m' H') {a : Addr} (h : H' a = none) : H a = none := by
  cases e : H a with
  | none => rfl
  | some o =>
    obtain ⟨o', h'⟩ := s.there a o e
    rw [h] at h'
    cases h'
theorem Step.get (s : Step m H m' H') {k : Nat} {a : Addr} (h : m[k]? = some a) : m'[k]? = some a := by
  obtain ⟨⟨r, e, _⟩, _, _, _⟩ := s
  subst e
  obtain ⟨hl, hv⟩ := List.getElem?_eq_some_iff.mp h
  rw [List.getElem?_append_left hl]
  exact h
theorem StRel.at_m (S : StRel K g env hp m σ H) {a : Addr} (h : a ∈ m) : ∃ vs, H a = some (.lst vs) := by
  obtain ⟨k, hk⟩ := List.mem_iff_getElem?.mp h
  have hl : k < hp.length := by
    rw [← S.cells]
    exact (List.getElem?_eq_some_iff.mp hk).1
  obtain ⟨b, vs, h1, h2, _⟩ := S.cell k hp[k] (List.getElem?_eq_getElem hl)
  rw [hk] at h1
  cases h1
  exact ⟨vs, h2⟩
/-- the cells hold lists, so tuples stay -/
theorem sqt_step (hm : ∀ a ∈ m, ∃ vs, H a = some (.lst vs)) (s : Step m H m' H') {a : Addr} {vs : List V} (h : SqT K H a vs) : SqT K H' a vs := by
  obtain (h | ⟨o, h⟩) | h := h
  · refine .inl (.inl (s.keep a _ h fun z => ?_))
    obtain ⟨vs, e⟩ := hm a z
    rw [h] at e
    cases e
  · refine .inl (.inr ⟨o, s.keep a _ h fun z => ?_⟩)
    obtain ⟨vs, e⟩ := hm a z
    rw [h] at e
    cases e
  · exact .inr h
theorem Step.off (s : Step m H m' H') {a : Addr} {o : HO} (h : H a = some o) (n : a ∉ m) : a ∉ m' := by
  obtain ⟨⟨r, e, f⟩, _, _, _⟩ := s
  subst e
  intro z
  rcases List.mem_append.mp z with q | q
  · exact n q
  · rw [f a q] at h
    cases h
theorem Bor.step (s : Step m H m' H') {a : Addr} {vs : List V} (h : Bor K m H a vs) : Bor K m' H' a vs := by
  rcases h with ⟨h | ⟨o, h⟩, n⟩ | h
  · exact .inl ⟨.inl (s.keep a _ h n), s.off h n⟩
  · exact .inl ⟨.inr ⟨o, s.keep a _ h n⟩, s.off h n⟩
  · exact .inr h
theorem fbd_step (s : Step m H m' H') {a : Addr} {o : HO} (h : H a = some o) (n : ¬ Fbd g env σ m a) : ¬ Fbd g env σ m' a := by
  obtain ⟨⟨r, e, f⟩, _, _, _⟩ := s
  subst e
  rintro (z | z | z)
  · exact n (.inl z)
  · exact n (.inr (.inl z))
  · rcases List.mem_append.mp z with q | q
    · exact n (.inr (.inr q))
    · rw [f a q] at h
      cases h
theorem Rep.step (hm : ∀ a ∈ m, ∃ vs, H a = some (.lst vs)) (s : Step m H m' H') {v : V} {d : D} (r : Rep K (Fbd g env σ m) m H v d) : Rep K (Fbd g env σ m') m' H' v d :=
  r.move (fun _ _ h => sqt_step hm s h) (fun a vs h n => ⟨s.keep a _ h fun z => n (.inr (.inr z)), fbd_step s h n⟩) fun _ _ h => s.get h
theorem RepL.step (hm : ∀ a ∈ m, ∃ vs, H a = some (.lst vs)) (s : Step m H m' H') {v : List V} {d : List D} (r : RepL K (Fbd g env σ m) m H v d) : RepL K (Fbd g env σ m') m' H' v d :=
  r.move (fun _ _ h => sqt_step hm s h) (fun a vs h n => ⟨s.keep a _ h fun z => n (.inr (.inr z)), fbd_step s h n⟩) fun _ _ h => s.get h
theorem RepW.step (hm : ∀ a ∈ m, ∃ vs, H a = some (.lst vs)) (s : Step m H m' H') {v : V} {d : D} (r : RepW K (Fbd g env σ m) m H v d) : RepW K (Fbd g env σ m') m' H' v d := by
  cases r with
  | of r => exact .of (r.step hm s)
  | lst h r => exact .lst (h.step s) (r.step hm s)
theorem RepW.v {Fb : Addr → Prop} {v : V} {d : D} (r : RepW K Fb m H v d) : RepV K Fb m H v d := by
  cases r with
  | of r => exact .of r
  | lst h r => exact .lst h.sql r
/-- what is forbidden is there -/
theorem StRel.fb (S : StRel K g env hp m σ H) : ∀ a, Fbd g env σ m a → H a ≠ none := by
  rintro a (h | ⟨i, d, h1, h2⟩ | h)
  · exact S.pr a h
  · obtain ⟨b, vs, ds, e1, _, e2, _⟩ := S.slots i _ h1
    rw [h2] at e1
    cases e1
    rw [e2]
    simp
  · obtain ⟨vs, e⟩ := S.at_m h
    rw [e]
    simp
/-- the cells as they stand, read through -/
theorem RepV.cell (S : StRel K g env hp m σ H) {v : V} {d e : D} (r : RepV K (Fbd g env σ m) m H v d) (h : deref hp d = some e) : RepV K (Fbd g env σ m) m H v e := by
  cases d with
  | ref k =>
    obtain ⟨xs, h1, rfl⟩ := Option.map_eq_some_iff.mp (show (hp[k]?).map D.lst = some e from h)
    obtain ⟨a, vs, e1, e2, rv⟩ := S.cell k xs h1
    cases r with
    | of r =>
      cases r with
      | ref h2 =>
        rw [e1] at h2
        cases h2
        exact .lst (.inl (.inl e2)) rv
  | _ =>
    obtain rfl := Option.some.inj (show some _ = some e from h)
    exact r
/-- new objects alone -/
theorem StRel.ext (S : StRel K g env hp m σ H) (e : Ext H H') : StRel K g env hp m σ H' := by
  have st : Step m H m H' := Step.ext e
  have hm : ∀ a ∈ m, ∃ vs, H a = some (.lst vs) := fun a h => S.at_m h
  refine ⟨S.len, fun i x hx => ?_, S.apart, S.cells, fun k xs h => ?_, S.nd, fun a h z => ?_, fun a o h n nt => e a o (S.frame a o h n nt), S.more, S.tabs.ext e, fun a h => has_ext e (S.has a h)⟩
  · have := S.slots i x hx
    cases x with
    | none => trivial
    | val d =>
      obtain ⟨v, h1, h2⟩ := this
      exact ⟨v, h1, h2.ext e⟩
    | own d =>
      obtain ⟨a, vs, ds, h1, h2, h3, h4, h5, h6, h7⟩ := this
      exact ⟨a, vs, ds, h1, h2, e a _ h3, h4.ext e, h5, h6, h7⟩
    | bor d =>
      obtain ⟨a, vs, ds, h1, h2, h3, h4, h5⟩ := this
      exact ⟨a, vs, ds, h1, h2, h3.step st, h4.ext e, h5⟩
  · obtain ⟨a, vs, h1, h2, h3⟩ := S.cell k xs h
    exact ⟨a, vs, h1, e a _ h2, h3.ext e⟩
  · cases q : H a with
    | none => exact S.pr a h q
    | some o =>
      rw [e a o q] at z
      cases z
end
end Ev
end

section
set_option Elab.async false
set_option linter.all false
set_option maxRecDepth 100000
namespace Ev
open PySem L2
variable [TabList]

section
variable {K : PySem.W.Frag} {g : Gh} {env env' : Env} {hp hp' : Heap} {m m' : List Addr} {σ σ' : St} {H H' : Hp}
/-- the same own lists -/
def SameOwn (env : Env) (σ : St) (env' : Env) (σ' : St) : Prop := ∀ a, isOwn env' σ' a ↔ isOwn env σ a
theorem SameOwn.refl : SameOwn env σ env σ := fun _ => Iff.rfl
theorem SameOwn.trans {env'' : Env} {σ'' : St} (a : SameOwn env σ env' σ') (b : SameOwn env' σ' env'' σ'') : SameOwn env σ env'' σ'' := fun x => (b x).trans (a x)
theorem SameOwn.fbd (h : SameOwn env σ env' σ') : Fbd g env' σ' m = Fbd g env σ m := by
  funext a
  unfold Fbd
  rw [propext (h a)]
theorem isOwn_set {i : Nat} {x : Sl} {o : Option V} (hx : ∀ d, x ≠ .own d) (hi : ∀ d, env[i]? ≠ some (.own d)) : SameOwn env σ (env.set i x) (σ.set i o) := by
  intro a
  constructor
  · rintro ⟨j, d, h1, h2⟩
    by_cases e : i = j
    · subst e
      rw [List.getElem?_set] at h1
      simp only [if_true] at h1
      split at h1
      · exact absurd (Option.some.inj h1) (hx d)
      · cases h1
    · rw [List.getElem?_set_ne e] at h1 h2
      exact ⟨j, d, h1, h2⟩
  · rintro ⟨j, d, h1, h2⟩
    have e : i ≠ j := fun z => by
      subst z
      exact hi d h1
    exact ⟨j, d, by rw [List.getElem?_set_ne e]; exact h1, by rw [List.getElem?_set_ne e]; exact h2⟩
theorem notOwn_of {o : Option Sl} (h : ¬ isOwnSl o = true) : ∀ d, o ≠ some (.own d) := fun d e => by
  subst e
  exact h rfl
/-- a slot gets a value (or nothing); the slot was no own list -/
theorem StRel.put (S : StRel K g env hp m σ H) {i : Nat} {x : Sl} {o : Option V} (hi : ∀ d, env[i]? ≠ some (.own d)) (hx : ∀ d, x ≠ .own d) (hok : i < env.length → SlotOk K g (env.set i x) m (σ.set i o) H i x) :
    StRel K g (env.set i x) hp m (σ.set i o) H := by
  have so : SameOwn env σ (env.set i x) (σ.set i o) := isOwn_set hx hi
  have fb : Fbd g (env.set i x) (σ.set i o) m = Fbd g env σ m := so.fbd
  refine ⟨by rw [List.length_set, List.length_set]; exact S.len, fun j y hj => ?_, fun j l d e a h1 h2 h3 h4 => ?_, S.cells, fun k xs h => ?_, S.nd, S.pr, S.frame, S.more, S.tabs, S.has⟩
  · by_cases e : i = j
    · subst e
      have hl : i < env.length := by
        have := (List.getElem?_eq_some_iff.mp hj).1
        rwa [List.length_set] at this
      rw [List.getElem?_set_self hl] at hj
      cases hj
      exact hok hl
    · rw [List.getElem?_set_ne e] at hj
      have := S.slots j y hj
      cases y with
      | none => trivial
      | val d =>
        obtain ⟨v, h1, h2⟩ := this
        exact ⟨v, by rw [List.getElem?_set_ne e]; exact h1, by rw [fb]; exact h2⟩
      | own d =>
        obtain ⟨a, vs, ds, h1, h2, h3, h4, h5⟩ := this
        exact ⟨a, vs, ds, by rw [List.getElem?_set_ne e]; exact h1, h2, h3, by rw [fb]; exact h4, h5⟩
      | bor d =>
        obtain ⟨a, vs, ds, h1, h2, h3, h4, h5⟩ := this
        exact ⟨a, vs, ds, by rw [List.getElem?_set_ne e]; exact h1, h2, h3, by rw [fb]; exact h4, h5⟩
  · have ne : ∀ {n : Nat} {d : D}, (env.set i x)[n]? = some (.own d) → i ≠ n := fun {n d} h z => by
      subst z
      rw [List.getElem?_set] at h
      simp only [if_true] at h
      split at h
      · exact absurd (Option.some.inj h) (hx d)
      · cases h
    have e1 := ne h1
    have e2 := ne h2
    rw [List.getElem?_set_ne e1] at h1 h3
    rw [List.getElem?_set_ne e2] at h2 h4
    exact S.apart j l d e a h1 h2 h3 h4
  · rw [fb]
    exact S.cell k xs h
theorem StRel.putVal (S : StRel K g env hp m σ H) {i : Nat} {d : D} {v : V} (hi : ¬ isOwnSl env[i]? = true) (r : Rep K (Fbd g env σ m) m H v d) :
    StRel K g (env.set i (.val d)) hp m (σ.set i (some v)) H ∧ SameOwn env σ (env.set i (.val d)) (σ.set i (some v)) := by
  have so : SameOwn env σ (env.set i (.val d)) (σ.set i (some v)) := isOwn_set (fun _ e => by cases e) (notOwn_of hi)
  refine ⟨S.put (notOwn_of hi) (fun _ e => by cases e) fun hl => ⟨v, ?_, ?_⟩, so⟩
  · rw [List.getElem?_set_self (by rw [← S.len]; exact hl)]
  · rw [so.fbd]
    exact r
theorem StRel.putNone (S : StRel K g env hp m σ H) {i : Nat} (hi : ¬ isOwnSl env[i]? = true) :
    StRel K g (env.set i .none) hp m (σ.set i none) H ∧ SameOwn env σ (env.set i .none) (σ.set i none) :=
  ⟨S.put (notOwn_of hi) (fun _ e => by cases e) fun _ => trivial, isOwn_set (fun _ e => by cases e) (notOwn_of hi)⟩
/-- the same own lists, another heap: what the statement around has stays -/
theorem StRel.back (S : StRel K g env hp m σ H) (S' : StRel K g env' hp' m' σ' H') (so : SameOwn env σ env' σ') (st : Step m H m' H') : StRel K g env hp' m' σ H' := by
  have hm : ∀ a ∈ m, ∃ vs, H a = some (.lst vs) := fun a h => S.at_m h
  have fb : Fbd g env' σ' m' = Fbd g env σ m' := so.fbd
  refine ⟨S.len, fun i x hx => ?_, S.apart, S'.cells, fun k xs h => ?_, S'.nd, S'.pr, S'.frame, S'.more, S'.tabs, S'.has⟩
  · have := S.slots i x hx
    cases x with
    | none => trivial
    | val d =>
      obtain ⟨v, h1, h2⟩ := this
      exact ⟨v, h1, h2.step hm st⟩
    | own d =>
      obtain ⟨a, vs, ds, h1, h2, h3, h4, h5, h6, h7⟩ := this
      exact ⟨a, vs, ds, h1, h2, st.keep a _ h3 h6, h4.step hm st, h5, st.off h3 h6, h7⟩
    | bor d =>
      obtain ⟨a, vs, ds, h1, h2, h3, h4, h5⟩ := this
      exact ⟨a, vs, ds, h1, h2, h3.step st, h4.step hm st, h5⟩
  · obtain ⟨a, vs, h1, h2, h3⟩ := S'.cell k xs h
    rw [fb] at h3
    exact ⟨a, vs, h1, h2, h3⟩
end

/-! ### readings by the evaluator -/
variable (K : PySem.W.Frag) (Γ : Nat → List D → Heap → R D) (g : Gh)
def tE (c : E) : TE := fun σ H Q => ∃ env hp m, StRel K g env hp m σ H ∧ ∃ d hp', evE reprL Γ c env hp = some (.ok d hp') ∧
  ∀ v H' m', StRel K g env hp' m' σ H' → Step m H m' H' → Rep K (Fbd g env σ m') m' H' v d → Q v H'
def tV (c : E) : TE := fun σ H Q => ∃ env hp m, StRel K g env hp m σ H ∧ ∃ d hp', evE reprL Γ c env hp = some (.ok d hp') ∧
  ∀ v H' m', StRel K g env hp' m' σ H' → Step m H m' H' → RepW K (Fbd g env σ m') m' H' v d → Q v H'
def tT (c : E) : TT := fun σ H Q => ∃ env hp m, StRel K g env hp m σ H ∧ ∃ b hp', evE reprL Γ c env hp = some (.ok (.bl b) hp') ∧
  ∀ H' m', StRel K g env hp' m' σ H' → Step m H m' H' → Q b H'
def tEs (cs : List E) : TA := fun σ H Q => ∃ env hp m, StRel K g env hp m σ H ∧ ∃ ds hp', evEs reprL Γ cs env hp = some (.ok ds hp') ∧
  ∀ vs H' m', StRel K g env hp' m' σ H' → Step m H m' H' → RepL K (Fbd g env σ m') m' H' vs ds → Q vs H'
variable {K Γ g}
section
variable {X : Cx} {e : Expr} {c : E}
theorem peWeak {t t' : TE} (h : PE X e t) (i : ∀ σ H Q, t' σ H Q → t σ H Q) : PE X e t' := ⟨fun pins s σ H Q I q => h.run pins s σ H Q I (i _ _ _ q)⟩
theorem ptWeak {t t' : TT} (h : PT X e t) (i : ∀ σ H Q, t' σ H Q → t σ H Q) : PT X e t' := ⟨fun pins s σ H Q I q => h.run pins s σ H Q I (i _ _ _ q)⟩
theorem paWeak {es : List Expr} {t t' : TA} (h : PA X es t) (i : ∀ σ H Q, t' σ H Q → t σ H Q) : PA X es t' := ⟨fun pos pins s σ H Q I q => h.run pos pins s σ H Q I (i _ _ _ q)⟩
theorem peV (h : PE X e (tE K Γ g c)) : PE X e (tV K Γ g c) := peWeak h fun σ H Q ⟨env, hp, m, S, d, hp', ev, q⟩ => ⟨env, hp, m, S, d, hp', ev, fun v H' m' S' st r => q v H' m' S' st (.of r)⟩
/-- an equation between evaluations, taken apart -/
theorem bind_some {α β : Type} {x : R α} {f : α → Heap → R β} {b : β} {h : Heap} (e : R.bind x f = some (.ok b h)) : ∃ a h1, x = some (.ok a h1) ∧ f a h1 = some (.ok b h) := by
  cases x with
  | none => cases e
  | some o =>
    cases o with
    | ok a h1 => exact ⟨a, h1, rfl, e⟩
    | err _ _ _ => cases e
theorem lift_ok {o : Option D} {d : D} {h h' : Heap} (e : lift h o = some (.ok d h')) : o = some d ∧ h' = h := by
  cases o with
  | none => cases e
  | some x =>
    cases e
    exact ⟨rfl, rfl⟩
/-! two operands -/
theorem sE_op2 {f : Value → Value → Sem Value} {o : Op2} {a b : E} {σ : St} {H : Hp} {Q : VK} (q : tE K Γ g (.op2 o a b) σ H Q) : tOp (rO2 K o) (tV K Γ g a) (tV K Γ g b) σ H Q := by
  obtain ⟨env, hp, m, S, d, hp', ev, q⟩ := q
  obtain ⟨x, h1, e1, ev⟩ := bind_some (show R.bind (evE reprL Γ a env hp) _ = _ from ev)
  obtain ⟨y, h2, e2, ev⟩ := bind_some ev
  obtain ⟨e3, rfl⟩ := lift_ok ev
  obtain ⟨x', d1, e3⟩ := Option.bind_eq_some_iff.mp e3
  obtain ⟨y', d2, e3⟩ := Option.bind_eq_some_iff.mp e3
  refine ⟨env, hp, m, S, x, h1, e1, fun v1 H1 m1 S1 st1 r1 => ⟨env, h1, m1, S1, y, hp', e2, fun v2 H2 m2 S2 st2 r2 => ?_⟩⟩
  refine ⟨Fbd g env σ m2, m2, x', y', d, S2.fb, (r1.step (fun a h => S1.at_m h) st2).v.cell S2 d1, r2.v.cell S2 d2, e3, fun v H' ex r => ?_⟩
  exact q v H' m2 (S2.ext ex) ((st1.trans st2).trans (Step.ext ex)) r
theorem sE_op1 {o : Op1} {a : E} {σ : St} {H : Hp} {Q : VK} (q : tE K Γ g (.op1 o a) σ H Q) : tV K Γ g a σ H fun x H1 => rO1 K reprL o x H1 Q := by
  obtain ⟨env, hp, m, S, d, hp', ev, q⟩ := q
  obtain ⟨x, h1, e1, ev⟩ := bind_some (show R.bind (evE reprL Γ a env hp) _ = _ from ev)
  obtain ⟨e3, rfl⟩ := lift_ok ev
  obtain ⟨x', d1, e3⟩ := Option.bind_eq_some_iff.mp e3
  refine ⟨env, hp, m, S, x, hp', e1, fun v1 H1 m1 S1 st1 r1 => ⟨Fbd g env σ m1, m1, x', d, S1.fb, r1.v.cell S1 d1, e3, fun v H' ex r => ?_⟩⟩
  exact q v H' m1 (S1.ext ex) (st1.trans (Step.ext ex)) r
end
end Ev
end

section
set_option Elab.async false
set_option linter.all false
set_option maxRecDepth 100000
namespace Ev
open PySem L2
variable [TabList]
section
variable {Γ : Nat → List D → Heap → R D} {g : Gh} {X : Cx}
theorem rok_inj {α : Type} {a b : α} {h h' : Heap} (e : some (Out.ok a h) = some (Out.ok b h')) : a = b ∧ h = h' := by
  cases e
  exact ⟨rfl, rfl⟩
theorem evEs_len : ∀ {cs : List E} {env : Env} {hp hp' : Heap} {ds : List D}, evEs reprL Γ cs env hp = some (.ok ds hp') → ds.length = cs.length
  | [], _, _, _, _, e => by
    obtain ⟨rfl, rfl⟩ := rok_inj e
    rfl
  | c :: cs, env, hp, hp', ds, e => by
    obtain ⟨x, h1, e1, ev⟩ := bind_some (show R.bind (evE reprL Γ c env hp) _ = _ from e)
    obtain ⟨xs, h2, e2, ev⟩ := bind_some ev
    obtain ⟨rfl, rfl⟩ := rok_inj ev
    rw [List.length_cons, List.length_cons, evEs_len e2]
/-! ### what is read, what is fixed -/
theorem e_val {e : Expr} {v : V} {d : D} (h : PE X e (tC v)) (r : ∀ Fb m H, Rep X.K Fb m H v d) : PE X e (tE X.K Γ g (.cst d)) := peWeak h fun σ H Q ⟨env, hp, m, S, d', hp', ev, q⟩ => by
  obtain ⟨e1, e2⟩ := rok_inj (show some (Out.ok d hp) = some (.ok d' hp') from ev)
  subst e1 e2
  exact q _ _ m S Step.refl (r _ _ _)
theorem e_var {i : Nat} {x : Str} {pos : Pos} (hN : X.N[i]? = some x) (hv : Vis X.env.scope x) (hd : (x == ("__debug__" : Str)) = false) (hcd : (x == ("__classdict__" : Str)) = false) : PE X (.Name x pos) (tE X.K Γ g (.var i)) :=
  peWeak (pe_var hN hv hd hcd) fun σ H Q ⟨env, hp, m, S, d, hp', ev, q⟩ => by
    obtain ⟨e1, rfl⟩ := lift_ok (show lift hp (Sl.get env[i]?) = _ from ev)
    cases hx : env[i]? with
    | none =>
      rw [hx] at e1
      cases e1
    | some x =>
      rw [hx] at e1
      cases x with
      | val d' =>
        obtain rfl := Option.some.inj (show some d' = some d from e1)
        obtain ⟨v, h1, h2⟩ := S.slots i _ hx
        exact ⟨v, h1, q v H m S Step.refl h2⟩
      | _ => cases e1
theorem e_view {i : Nat} {x : Str} {pos : Pos} (hN : X.N[i]? = some x) (hv : Vis X.env.scope x) (hd : (x == ("__debug__" : Str)) = false) (hcd : (x == ("__classdict__" : Str)) = false) : PE X (.Name x pos) (tV X.K Γ g (.view i)) :=
  peWeak (pe_var hN hv hd hcd) fun σ H Q ⟨env, hp, m, S, d, hp', ev, q⟩ => by
    obtain ⟨e1, rfl⟩ := lift_ok (show lift hp (Sl.see env[i]?) = _ from ev)
    cases hx : env[i]? with
    | none =>
      rw [hx] at e1
      cases e1
    | some x =>
      rw [hx] at e1
      cases x with
      | none => cases e1
      | val d' =>
        obtain rfl := Option.some.inj (show some d' = some d from e1)
        obtain ⟨v, h1, h2⟩ := S.slots i _ hx
        exact ⟨v, h1, q v H m S Step.refl (.of h2)⟩
      | own d' =>
        obtain rfl := Option.some.inj (show some d' = some d from e1)
        obtain ⟨a, vs, ds, h1, rfl, h3, h4, h5, h6, h7⟩ := S.slots i _ hx
        exact ⟨.ref a, h1, q _ H m S Step.refl (.lst (.inl ⟨.inl h3, h6⟩) h4)⟩
      | bor d' =>
        obtain rfl := Option.some.inj (show some d' = some d from e1)
        obtain ⟨a, vs, ds, h1, rfl, h3, h4, h5⟩ := S.slots i _ hx
        exact ⟨.ref a, h1, q _ H m S Step.refl (.lst h3 h4)⟩
theorem e_peek {i : Nat} {x : Str} {pos : Pos} (hN : X.N[i]? = some x) (hv : Vis X.env.scope x) (hd : (x == ("__debug__" : Str)) = false) (hcd : (x == ("__classdict__" : Str)) = false) : PE X (.Name x pos) (tV X.K Γ g (.peek i)) :=
  peWeak (e_view (Γ := Γ) (g := g) hN hv hd hcd) fun σ H Q ⟨env, hp, m, S, d, hp', ev, q⟩ => by
    obtain ⟨e1, rfl⟩ := lift_ok (show lift hp (Sl.peek env[i]?) = _ from ev)
    refine ⟨env, _, m, S, d, hp', ?_, q⟩
    show lift hp' (Sl.see env[i]?) = _
    cases hx : env[i]? with
    | none =>
      rw [hx] at e1
      cases e1
    | some x =>
      rw [hx] at e1
      cases x with
      | none => cases e1
      | own d' => cases e1
      | val d' =>
        obtain rfl := Option.some.inj (show some d' = some d from e1)
        rfl
      | bor d' =>
        obtain rfl := Option.some.inj (show some d' = some d from e1)
        rfl
/-! ### lists of expressions -/
def notStar : Expr → Bool
  | .Starred .. => false
  | _ => true
theorem star_cons {e : Expr} (h : notStar e = true) (es : List Expr) (env : PySem.Env) : starEach (e :: es) env = (false, eval e env) :: starEach es env := by
  cases e <;> first | rfl | cases h
theorem es_nil : PA X [] (tEs X.K Γ g []) := paWeak pa_nil fun σ H Q ⟨env, hp, m, S, ds, hp', ev, q⟩ => by
  obtain ⟨rfl, rfl⟩ := rok_inj (show some (Out.ok [] hp) = some (.ok ds hp') from ev)
  exact q _ _ m S Step.refl .nil
theorem es_cons {e : Expr} {es : List Expr} {c : E} {cs : List E} (h : PE X e (tE X.K Γ g c)) (hs : PA X es (tEs X.K Γ g cs)) (ns : notStar e = true) : PA X (e :: es) (tEs X.K Γ g (c :: cs)) :=
  paWeak (pa_cons h hs (star_cons ns es X.env)) fun σ H Q ⟨env, hp, m, S, ds, hp', ev, q⟩ => by
    obtain ⟨x, h1, e1, ev⟩ := bind_some (show R.bind (evE reprL Γ c env hp) _ = _ from ev)
    obtain ⟨xs, h2, e2, ev⟩ := bind_some ev
    obtain ⟨rfl, rfl⟩ := rok_inj ev
    refine ⟨env, hp, m, S, x, h1, e1, fun v1 H1 m1 S1 st1 r1 => ⟨env, h1, m1, S1, xs, h2, e2, fun vs H2 m2 S2 st2 r2 => ?_⟩⟩
    exact q _ H2 m2 S2 (st1.trans st2) (.cons (r1.step (fun a h => S1.at_m h) st2) r2)
theorem e_tup {es : List Expr} {cs : List E} {k : Nat} {pos : Pos} (h : PA X es (tEs X.K Γ g cs)) (hl : cs.length ≤ sizeLine) (el : es.length = cs.length) : PE X (.Tuple es k pos) (tE X.K Γ g (.tup cs)) :=
  peWeak (pe_tup h) fun σ H Q ⟨env, hp, m, S, d, hp', ev, q⟩ => by
    obtain ⟨xs, h1, e1, ev⟩ := bind_some (show R.bind (evEs reprL Γ cs env hp) _ = _ from ev)
    obtain ⟨rfl, rfl⟩ := rok_inj ev
    refine ⟨env, hp, m, S, xs, h1, e1, fun vs H1 m1 S1 st1 r1 => ⟨?_, fun p np => ?_⟩⟩
    · rw [r1.length, evEs_len e1]
      exact hl
    · exact q _ _ m1 (S1.ext (Evl.Ex.new np)) (st1.trans (Step.ext (Evl.Ex.new np))) (rep_new_tup np r1)
theorem e_lst {es : List Expr} {cs : List E} {pos : Pos} (h : PA X es (tEs X.K Γ g cs)) (hl : cs.length ≤ sizeLine) : PE X (.List es pos) (tE X.K Γ g (.lst cs)) :=
  peWeak (pe_lst h) fun σ H Q ⟨env, hp, m, S, d, hp', ev, q⟩ => by
    obtain ⟨xs, h1, e1, ev⟩ := bind_some (show R.bind (evEs reprL Γ cs env hp) _ = _ from ev)
    obtain ⟨rfl, rfl⟩ := rok_inj ev
    refine ⟨env, hp, m, S, xs, h1, e1, fun vs H1 m1 S1 st1 r1 => ⟨?_, fun p np => ?_⟩⟩
    · rw [r1.length, evEs_len e1]
      exact hl
    · exact q _ _ m1 (S1.ext (Evl.Ex.new np)) (st1.trans (Step.ext (Evl.Ex.new np))) (rep_new_lst S1.fb np r1)
/-! ### a test's choices -/
theorem evE_and {a b : E} {env : Env} {hp hp' : Heap} {d : D} (ev : evE reprL Γ (.and a b) env hp = some (.ok d hp')) :
    (∃ h1, evE reprL Γ a env hp = some (.ok (.bl true) h1) ∧ evE reprL Γ b env h1 = some (.ok d hp')) ∨ (evE reprL Γ a env hp = some (.ok (.bl false) hp') ∧ d = .bl false) := by
  obtain ⟨x, h1, e1, ev⟩ := bind_some (show R.bind (evE reprL Γ a env hp) _ = _ from ev)
  cases x with
  | bl c =>
    cases c with
    | true => exact .inl ⟨h1, e1, ev⟩
    | false =>
      obtain ⟨rfl, rfl⟩ := rok_inj ev
      exact .inr ⟨e1, rfl⟩
  | _ => cases ev
theorem evE_or {a b : E} {env : Env} {hp hp' : Heap} {d : D} (ev : evE reprL Γ (.or a b) env hp = some (.ok d hp')) :
    (∃ h1, evE reprL Γ a env hp = some (.ok (.bl false) h1) ∧ evE reprL Γ b env h1 = some (.ok d hp')) ∨ (evE reprL Γ a env hp = some (.ok (.bl true) hp') ∧ d = .bl true) := by
  obtain ⟨x, h1, e1, ev⟩ := bind_some (show R.bind (evE reprL Γ a env hp) _ = _ from ev)
  cases x with
  | bl c =>
    cases c with
    | false => exact .inl ⟨h1, e1, ev⟩
    | true =>
      obtain ⟨rfl, rfl⟩ := rok_inj ev
      exact .inr ⟨e1, rfl⟩
  | _ => cases ev
theorem evE_ite {t a b : E} {env : Env} {hp hp' : Heap} {d : D} (ev : evE reprL Γ (.ite t a b) env hp = some (.ok d hp')) :
    ∃ c h1, evE reprL Γ t env hp = some (.ok (.bl c) h1) ∧ (c = true → evE reprL Γ a env h1 = some (.ok d hp')) ∧ (c = false → evE reprL Γ b env h1 = some (.ok d hp')) := by
  obtain ⟨x, h1, e1, ev⟩ := bind_some (show R.bind (evE reprL Γ t env hp) _ = _ from ev)
  cases x with
  | bl c =>
    refine ⟨c, h1, e1, fun z => ?_, fun z => ?_⟩
    · subst z
      exact ev
    · subst z
      exact ev
  | _ => cases ev
theorem e_and {a b : Expr} {x y : E} {pos : Pos} {rest : List Expr} (ha : PE X a (tE X.K Γ g x)) (hb : PE X (.BoolOp .And (b :: rest) pos) (tE X.K Γ g y)) : PE X (.BoolOp .And (a :: b :: rest) pos) (tE X.K Γ g (.and x y)) :=
  peWeak (pe_and ha hb) fun σ H Q ⟨env, hp, m, S, d, hp', ev, q⟩ => by
    rcases evE_and ev with ⟨h1, e1, e2⟩ | ⟨e1, rfl⟩
    · refine ⟨env, hp, m, S, _, h1, e1, fun v H1 m1 S1 st1 r1 => ?_⟩
      cases r1
      refine ⟨true, rfl, iteT ⟨env, h1, m1, S1, d, hp', e2, fun v H2 m2 S2 st2 r2 => q v H2 m2 S2 (st1.trans st2) r2⟩⟩
    · refine ⟨env, hp, m, S, _, hp', e1, fun v H1 m1 S1 st1 r1 => ?_⟩
      cases r1
      exact ⟨false, rfl, iteF (q _ H1 m1 S1 st1 (.bl _))⟩
theorem e_or {a b : Expr} {x y : E} {pos : Pos} {rest : List Expr} (ha : PE X a (tE X.K Γ g x)) (hb : PE X (.BoolOp .Or (b :: rest) pos) (tE X.K Γ g y)) : PE X (.BoolOp .Or (a :: b :: rest) pos) (tE X.K Γ g (.or x y)) :=
  peWeak (pe_or ha hb) fun σ H Q ⟨env, hp, m, S, d, hp', ev, q⟩ => by
    rcases evE_or ev with ⟨h1, e1, e2⟩ | ⟨e1, rfl⟩
    · refine ⟨env, hp, m, S, _, h1, e1, fun v H1 m1 S1 st1 r1 => ?_⟩
      cases r1
      refine ⟨false, rfl, iteF ⟨env, h1, m1, S1, d, hp', e2, fun v H2 m2 S2 st2 r2 => q v H2 m2 S2 (st1.trans st2) r2⟩⟩
    · refine ⟨env, hp, m, S, _, hp', e1, fun v H1 m1 S1 st1 r1 => ?_⟩
      cases r1
      exact ⟨true, rfl, iteT (q _ H1 m1 S1 st1 (.bl _))⟩
theorem w_and {a b : Expr} {x y : E} {pos : Pos} {rest : List Expr} (ha : PT X a (tT X.K Γ g x)) (hb : PW X (.BoolOp .And (b :: rest) pos) (tT X.K Γ g y)) : PW X (.BoolOp .And (a :: b :: rest) pos) (tT X.K Γ g (.and x y)) := by
  refine ⟨fun whole pins s σ H Q I h => (pw_and ha hb).run whole pins s σ H Q I ?_⟩
  obtain ⟨env, hp, m, S, d, hp', ev, q⟩ := h
  rcases evE_and ev with ⟨h1, e1, e2⟩ | ⟨e1, z⟩
  · exact ⟨env, hp, m, S, _, h1, e1, fun H1 m1 S1 st1 => iteT ⟨env, h1, m1, S1, d, hp', e2, fun H2 m2 S2 st2 => q H2 m2 S2 (st1.trans st2)⟩⟩
  · cases z
    exact ⟨env, hp, m, S, _, hp', e1, fun H1 m1 S1 st1 => iteF (q H1 m1 S1 st1)⟩
theorem w_or {a b : Expr} {x y : E} {pos : Pos} {rest : List Expr} (ha : PT X a (tT X.K Γ g x)) (hb : PW X (.BoolOp .Or (b :: rest) pos) (tT X.K Γ g y)) : PW X (.BoolOp .Or (a :: b :: rest) pos) (tT X.K Γ g (.or x y)) := by
  refine ⟨fun whole pins s σ H Q I h => (pw_or ha hb).run whole pins s σ H Q I ?_⟩
  obtain ⟨env, hp, m, S, d, hp', ev, q⟩ := h
  rcases evE_or ev with ⟨h1, e1, e2⟩ | ⟨e1, z⟩
  · exact ⟨env, hp, m, S, _, h1, e1, fun H1 m1 S1 st1 => iteF ⟨env, h1, m1, S1, d, hp', e2, fun H2 m2 S2 st2 => q H2 m2 S2 (st1.trans st2)⟩⟩
  · cases z
    exact ⟨env, hp, m, S, _, hp', e1, fun H1 m1 S1 st1 => iteT (q H1 m1 S1 st1)⟩
theorem e_ite {t a b : Expr} {z x y : E} {pos : Pos} (ht : PT X t (tT X.K Γ g z)) (ha : PE X a (tE X.K Γ g x)) (hb : PE X b (tE X.K Γ g y)) : PE X (.IfExp t a b pos) (tE X.K Γ g (.ite z x y)) :=
  peWeak (pe_ifExp ht ha hb) fun σ H Q ⟨env, hp, m, S, d, hp', ev, q⟩ => by
    obtain ⟨c, h1, e1, k1, k2⟩ := evE_ite ev
    refine ⟨env, hp, m, S, c, h1, e1, fun H1 m1 S1 st1 => ?_⟩
    cases c with
    | true => exact iteT ⟨env, h1, m1, S1, d, hp', k1 rfl, fun v H2 m2 S2 st2 r2 => q v H2 m2 S2 (st1.trans st2) r2⟩
    | false => exact iteF ⟨env, h1, m1, S1, d, hp', k2 rfl, fun v H2 m2 S2 st2 r2 => q v H2 m2 S2 (st1.trans st2) r2⟩
theorem v_ite {t a b : Expr} {z x y : E} {pos : Pos} (ht : PT X t (tT X.K Γ g z)) (ha : PE X a (tV X.K Γ g x)) (hb : PE X b (tV X.K Γ g y)) : PE X (.IfExp t a b pos) (tV X.K Γ g (.ite z x y)) :=
  peWeak (pe_ifExp ht ha hb) fun σ H Q ⟨env, hp, m, S, d, hp', ev, q⟩ => by
    obtain ⟨c, h1, e1, k1, k2⟩ := evE_ite ev
    refine ⟨env, hp, m, S, c, h1, e1, fun H1 m1 S1 st1 => ?_⟩
    cases c with
    | true => exact iteT ⟨env, h1, m1, S1, d, hp', k1 rfl, fun v H2 m2 S2 st2 r2 => q v H2 m2 S2 (st1.trans st2) r2⟩
    | false => exact iteF ⟨env, h1, m1, S1, d, hp', k2 rfl, fun v H2 m2 S2 st2 r2 => q v H2 m2 S2 (st1.trans st2) r2⟩
/-- a test by its value -/
theorem t_val {e : Expr} {c : E} (h : PE X e (tV X.K Γ g c)) (hs : ∀ whole : Sem Value, PySem.isTrue e X.env whole = (do let v ← whole; standAt e.pos; holding [v] (truthy v))) : PT X e (tT X.K Γ g c) :=
  ptWeak (pt_val h hs) fun σ H Q ⟨env, hp, m, S, b, hp', ev, q⟩ => ⟨env, hp, m, S, _, hp', ev, fun v H1 m1 S1 st1 r1 => by
    obtain rfl := r1.v.bl_inv
    exact ⟨b, rfl, q H1 m1 S1 st1⟩⟩
theorem t_not {e : Expr} {c : E} {pos : Pos} (h : PT X e (tT X.K Γ g c)) : PT X (.UnaryOp .Not e pos) (tT X.K Γ g (.op1 .not c)) :=
  ptWeak (pt_not h) fun σ H Q ⟨env, hp, m, S, b, hp', ev, q⟩ => by
    obtain ⟨x, h1, e1, ev⟩ := bind_some (show R.bind (evE reprL Γ c env hp) _ = _ from ev)
    obtain ⟨e3, z1⟩ := lift_ok ev
    subst z1
    obtain ⟨x', d1, e4⟩ := Option.bind_eq_some_iff.mp e3
    cases x with
    | bl z =>
      obtain rfl := Option.some.inj d1
      obtain rfl : (!z) = b := by
        have := Option.some.inj (show some (D.bl (!z)) = some (D.bl b) from e4)
        cases this
        rfl
      exact ⟨env, hp, m, S, _, _, e1, fun H1 m1 S1 st1 => q H1 m1 S1 st1⟩
    | ref k =>
      obtain ⟨_, _, z⟩ := Option.map_eq_some_iff.mp (show (hp'[k]?).map D.lst = some x' from d1)
      subst z
      cases e4
    | _ =>
      obtain rfl := Option.some.inj d1
      cases e4
theorem e_not {e : Expr} {c : E} {pos : Pos} (h : PE X e (tV X.K Γ g c)) : PE X (.UnaryOp .Not e pos) (tE X.K Γ g (.op1 .not c)) :=
  peWeak (pe_not h) fun σ H Q q => by
    obtain ⟨env, hp, m, S, d, hp', ev, q'⟩ := sE_op1 q
    refine ⟨env, hp, m, S, d, hp', ev, fun v H1 m1 S1 st1 r1 => ?_⟩
    obtain ⟨Fb, m2, x, r, hf, hx, ho, qq⟩ := q' v H1 m1 S1 st1 r1
    cases x <;> simp only [o1, reduceCtorEq, Option.some.injEq] at ho
    subst ho
    obtain rfl := hx.bl_inv
    exact ⟨_, rfl, qq _ _ (Evl.Ex.refl _) (.bl _)⟩
/-! ### operators -/
theorem e_bin {op : Operator} {o : Op2} {a b : Expr} {x y : E} {pos : Pos} (ho : OpR X (binaryOp op) (rO2 X.K o)) (ha : PE X a (tV X.K Γ g x)) (hb : PE X b (tV X.K Γ g y)) : PE X (.BinOp a op b pos) (tE X.K Γ g (.op2 o x y)) :=
  peWeak (pe_op ho ha hb) fun _ _ _ q => sE_op2 (f := binaryOp op) q
theorem e_cmp {op : CmpOp} {o : Op2} {a b : Expr} {x y : E} {pos : Pos} (ho : OpR X (compareOp op) (rO2 X.K o)) (ha : PE X a (tV X.K Γ g x)) (hb : PE X b (tV X.K Γ g y)) (hm : behindInMarks op b = false) : PE X (.Compare a [op] [b] pos) (tE X.K Γ g (.op2 o x y)) :=
  peWeak (pe_cmpR ho ha hb hm) fun _ _ _ q => sE_op2 (f := compareOp op) q
theorem t_cmp {op : CmpOp} {o : Op2} {a b : Expr} {x y : E} {pos : Pos} (ho : OpR X (compareOp op) (rO2 X.K o)) (ha : PE X a (tV X.K Γ g x)) (hb : PE X b (tV X.K Γ g y)) (hm : behindInMarks op b = false) : PT X (.Compare a [op] [b] pos) (tT X.K Γ g (.op2 o x y)) :=
  ptWeak (pt_cmpR ho ha hb hm) fun σ H Q ⟨env, hp, m, S, c, hp', ev, q⟩ => by
    refine sE_op2 (Q := fun v H1 => _) (f := compareOp op) ⟨env, hp, m, S, _, hp', ev, fun v H1 m1 S1 st1 r1 => ?_⟩
    cases r1
    exact ⟨c, rfl, q H1 m1 S1 st1⟩
theorem e_ix {a b : Expr} {x y : E} {pos : Pos} (ha : PE X a (tV X.K Γ g x)) (hb : PE X b (tV X.K Γ g y)) (hs : PlainIx b) : PE X (.Subscript a b pos) (tE X.K Γ g (.op2 .ix x y)) :=
  peWeak (pe_ix ro_ix ha hb hs) fun _ _ _ q => sE_op2 (f := getItem) q
end
end Ev
end

section
set_option Elab.async false
set_option linter.all false
set_option maxRecDepth 100000
namespace Ev
open PySem L2 HT
variable [TabList]
/-! ### a tuple turned round -/
section
variable {prog : Program} {w : World} {s : Shared} {A : Around} {E : Value → Shared → Prop}
theorem applied_back {sl : Addr} {vl vu vs : Value} {n : Nat} {Q : Int × Int × Nat → Shared → Prop} (hs : s.heap.IsSliceOf sl vl vu vs) (pl : IsPart vl none) (pu : IsPart vu none) (ps : IsPart vs (some (-1)))
    (h : Q ((n : Int) - 1, -1, n) s) : wpAny (model prog w) A (Builtin.Slice.sliceApplied (.ref sl) (pure (n : Int))) Q E s := by
  obtain ⟨ob, hob, hcl, hdt⟩ := id hs
  unfold Builtin.Slice.sliceApplied
  unfold Builtin.Slice.sliceFields
  refine wpAny_bind (wpAny_bind (wpAny_field hob hdt (x := vl) rfl (wpAny_bind (wpAny_field hob hdt (x := vu) rfl (wpAny_bind (wpAny_field hob hdt (x := vs) rfl (wpAny_pure ?_)))))))
  refine wpAny_bind (slicePart_ ps ?_)
  show wpAny _ _ (if ((-1 : Int) == 0) = true then _ else _) _ _ s
  rw [if_neg (by decide)]
  refine wpAny_bind (slicePart_ pl ?_)
  refine wpAny_bind (slicePart_ pu (wpAny_bind (wpAny_pure ?_)))
  show wpAny _ _ (pure ((n : Int) - 1, (-1 : Int), Builtin.Slice.slicePlaces ((n : Int) - 1) (-1) (-1))) _ _ s
  have e : Builtin.Slice.slicePlaces ((n : Int) - 1) (-1) (-1) = n := by
    simp only [Builtin.Slice.slicePlaces]
    try rw [if_neg (by decide)]
    by_cases hn : n = 0
    · subst hn
      rfl
    · rw [if_pos (by omega)]
      have : ((n : Int) - 1 - -1 - 1) / (- -1) + 1 = n := by
        rw [Int.neg_neg, Int.ediv_one]
        omega
      rw [this]
      exact Int.toNat_natCast n
  rw [e]
  exact wpAny_pure h
theorem fm_map {α β : Type} {f : α → Option β} {k : α → β} : ∀ l : List α, (∀ x ∈ l, f x = some (k x)) → l.filterMap f = l.map k
  | [], _ => rfl
  | x :: l, h => by rw [List.filterMap_cons, h x List.mem_cons_self, fm_map l fun y hy => h y (List.mem_cons_of_mem _ hy), List.map_cons]
theorem pick_back (xs : Array Value) : ((List.range xs.size).filterMap fun (k : Nat) => xs[((xs.size : Int) - 1 + (k : Int) * (-1)).toNat]?).toArray = xs.toList.reverse.toArray := by
  congr 1
  have h : ∀ k ∈ List.range xs.size, xs[((xs.size : Int) - 1 + (k : Int) * (-1)).toNat]? = some (xs.toList.reverse.getD k .none) := fun k hk => by
    have hk : k < xs.size := List.mem_range.mp hk
    have e : ((xs.size : Int) - 1 + (k : Int) * (-1)).toNat = xs.size - 1 - k := by omega
    have hl : k < xs.toList.reverse.length := by simpa using hk
    rw [e, List.getD_eq_getElem?_getD, List.getElem?_eq_getElem hl]
    have hl2 : xs.size - 1 - k < xs.size := by omega
    rw [Array.getElem?_eq_getElem hl2]
    simp [List.getElem_reverse]
  rw [fm_map _ h]
  apply List.ext_getElem
  · simp
  · intro i h1 h2
    rw [List.getElem_map, List.getD_eq_getElem?_getD, List.getElem_range, List.getElem?_eq_getElem h2]
    rfl
theorem getItem_back {t sl : Addr} {items : Array Value} {vl vu vs : Value} {Q : Value → Shared → Prop} (ht : PyProof.Rows.IsTup s.heap t items) (hs : s.heap.IsSliceOf sl vl vu vs) (pl : IsPart vl none) (pu : IsPart vu none) (ps : IsPart vs (some (-1)))
    (h : Q (.ref s.heap.objs.size) { s with heap := s.heap.push { cls := .type "tuple", data := .seq items.toList.reverse.toArray } })
    (hsz : items.size ≤ sizeLine) :
    wpAny (model prog w) A (getItem (.ref t) (.ref sl)) Q E s := by
  have htake : sizeOk (.seq items.toList.reverse.toArray) := by
    show items.toList.reverse.toArray.size ≤ sizeLine
    simpa using hsz
  obtain ⟨ob, hob, hcl, hdt⟩ := id hs
  have hSl : s.TypeIs (.ref sl) "slice" := ⟨ob, hob, hcl⟩
  unfold getItem
  try (with_reducible refine wpAny_holding ?_)
  try (refine wpAny_bind (wpAny_pure ?_))
  refine wpAny_bind ?_
  refine wpAny_sequenceKey ht.typeIs (by decide) ?_
  refine wpAny_bind (wpAny_callSpecial?_slot ht.typeIs (name := Str.ofString "__getitem__") PyProof.Rows.slot_tuple_getitem
    (wpAny_call_entry PyProof.Rows.slot_tuple_getitem ht.typeIs PyProof.Rows.entry_tuple_getitem ?_ (PyProof.Rows.args_tuple_getitem _ _)))
  show wpAny (model prog w) _ (Builtin.Tuple.tupleItemsOf (.ref t) >>= _) _ _ s
  refine wpAny_bind (PyProof.Rows.tupleItemsOf_ ht ?_)
  refine wpAny_bind (wpAny_typeOf hSl ?_)
  rw [if_pos (by decide)]
  refine wpAny_bind (applied_back hs pl pu ps ?_)
  have hno : ¬ ((((items.size : Int) - 1) == 0 && (-1 : Int) == 1 && items.size == items.size) = true) := by
    intro q
    rw [andI, andI] at q
    exact absurd q.1.2 (by decide)
  show wpAny _ _ (if (((items.size : Int) - 1) == 0 && (-1 : Int) == 1 && items.size == items.size) = true then _ else _) _ _ s
  rw [if_neg hno, pick_back]
  first
    | exact wpAny_bind (m := Builtin.Tuple.tupleExact _) (wpAny_newObj_type (hend := htake) (wpAny_pure ⟨_, rfl, wpAny_pure h⟩))
    | refine wpAny_bind (m := Builtin.Tuple.tupleExact _) (wpAny_newObj_type ?_ htake)
      exact wpAny_bind (wpAny_pure (wpAny_pure ⟨_, rfl, wpAny_pure h⟩))
    | refine wpAny_bind (wpAny_bind (m := Builtin.Tuple.tupleExact _) (wpAny_newObj_type ?_ htake))
      exact wpAny_pure (wpAny_pure ⟨_, rfl, wpAny_pure h⟩)
end
section
variable {Γ : Nat → List D → Heap → R D} {g : Gh} {X : Cx}
def rRev (K : PySem.W.Frag) : V → Hp → VK → Prop := fun x H1 Q => ∃ Fb m d r, (∀ a, Fb a → H1 a ≠ none) ∧ RepV K Fb m H1 x d ∧ o1 reprL .rev d = some r ∧
  ∀ p ws ds, H1 p = none → RepL K Fb m H1 ws ds → (r = .tup ds → Q (.ref p) (upd H1 p (.tup ws))) ∧ (r = .lst ds → Q (.ref p) (upd H1 p (.lst ws)))
/-- a part of a slice whose number is known: what is seen stays -/
theorem part_is {o : Option Expr} {t : TO} {r : Option Int} {pn : List (Addr × Obj)} {σ : L2.St} {H : Hp} {s : Shared} {C : Value → Shared → Prop} (part : PO X o t) (I : L2.Inv X pn σ H s) (known : t σ H fun n M => n = r ∧ M = H)
    (next : ∀ v z, IsPart v r → L2.Inv X pn σ H z → C v z) : wpAny (model X.prog X.w) X.A (evalPart o X.env) C X.xe s :=
  thn (part.run pn s σ H _ I known) fun v z ⟨n, M, J, p, e1, e2⟩ => by
    subst e1 e2
    exact next v z p J
/-- the cell of a slice -/
abbrev sliceCell (l u st : Value) : Obj := { cls := .type "slice", data := .fields #[l, u, st] }
/-- the value turned round, the slice being at hand -/
theorem turned {x : V} {v l u st : Value} {pn : List (Addr × Obj)} {σ : L2.St} {H : Hp} {z : Shared} {Q : VK} (J : L2.Inv X pn σ H z) (rel : RelV x v) (pl : IsPart l none) (pu : IsPart u none) (ps : IsPart st (some (-1))) (what : rRev X.K x H Q) (e : Expr) {k : Nat} {p1 p2 p3 : Pos} :
    wpAny (model X.prog X.w) X.A (PyProof.Rows.subscriptTail e (.Slice none none (some (.UnaryOp .USub (.Constant (.int 1) k p1) p2)) p3) v (.ref z.heap.objs.size)) (EP X pn σ Q) X.xe { z with heap := z.heap.push (sliceCell l u st) } := by
  have I : L2.Inv X pn σ H { z with heap := z.heap.push (sliceCell l u st) } := J.kept (t' := z.toks) fun _ _ => Heap.get?_push_of_some _
  obtain ⟨Fb, m, d, r, hf, rep, does, q⟩ := what
  have slice := Heap.IsSliceOf.new z.heap l u st
  have fresh := I.hok.fresh (Nat.le_refl _)
  match d, does with
  | .lst ds, does =>
    obtain rfl := Option.some.inj does
    obtain ⟨a, vs, rfl, row, reps⟩ := rep.lst_inv
    cases rel
    obtain ⟨its, vals, cell, few⟩ := I.list row
    have few2 : its.toArray.size ≤ sizeLine := by rw [List.size_toArray, ← vals.length]; exact few
    refine PyProof.Rows.tail_any (ops := [.ref a, .ref z.heap.objs.size]) cell.isList.typeIs PySem.slot_list_getitem.lookup (PySem.wpAny_getItem_list_slice cell.isList slice pl pu ps (by decide) ?_ few2) (by with_unfolding_all rfl)
    rw [PySem.W.krv_pick]
    exact ⟨.ref _, _, I.laid (t' := z.toks) (o := .lst vs.reverse) (fun _ _ => Heap.get?_push_of_some _) (Nat.le_refl _) ⟨by rw [vs.length_reverse]; exact few, its.reverse, 0, vals.reverse, Heap.get?_push_size _ rfl⟩, rfl, (q _ _ _ fresh reps.reverse).2 rfl⟩
  | .tup ds, does =>
    obtain rfl := Option.some.inj does
    obtain ⟨a, vs, rfl, row, reps⟩ := rep.tup_inv
    cases rel
    obtain ⟨its, vals, cell, few⟩ := I.tuple row
    have few2 : its.toArray.size ≤ sizeLine := by rw [List.size_toArray, ← vals.length]; exact few
    refine PyProof.Rows.tail_any (ops := [.ref a, .ref z.heap.objs.size]) cell.typeIs PyProof.Rows.slot_tuple_getitem.lookup (getItem_back cell slice pl pu ps ?_ few2) (by with_unfolding_all rfl)
    exact ⟨.ref _, _, I.laid (t' := z.toks) (o := .tup vs.reverse) (fun _ _ => Heap.get?_push_of_some _) (Nat.le_refl _) ⟨by rw [vs.length_reverse]; exact few, its.reverse, vals.reverse, PyProof.Rows.IsTup.new _ _⟩, rfl, (q _ _ _ fresh reps.reverse).1 rfl⟩
  | .non, does | .bl _, does | .int _, does | .str _, does | .ref _, does => cases does
theorem pe_rev0 {e : Expr} {t : TE} {k : Nat} {p1 p2 p3 pos : Pos} (he : PE X e t) : PE X (.Subscript e (.Slice none none (some (.UnaryOp .USub (.Constant (.int 1) k p1) p2)) p3) pos) fun σ H Q => t σ H fun x H1 => rRev X.K x H1 Q where
  run pn s σ H Q I told := PyProof.Rows.Subscript_ (thn (he.run pn s σ H _ I told) fun v z ⟨x, M, J, rel, what⟩ =>
    PySem.wpAny_Slice (part_is po_none J ⟨rfl, rfl⟩ fun l z1 pl J1 => part_is po_none J1 ⟨rfl, rfl⟩ fun u z2 pu J2 => part_is (po_some (pe_un un_neg pe_int)) J2 ⟨1, rfl, -1, rfl, rfl, rfl⟩ fun st z3 ps J3 => turned J3 rel pl pu ps what e))
theorem e_rev {e : Expr} {c : E} {k : Nat} {p1 p2 p3 pos : Pos} (he : PE X e (tV X.K Γ g c)) : PE X (.Subscript e (.Slice none none (some (.UnaryOp .USub (.Constant (.int 1) k p1) p2)) p3) pos) (tE X.K Γ g (.op1 .rev c)) :=
  peWeak (pe_rev0 he) fun σ H Q q => by
    obtain ⟨env, hp, m, S, d, hp', ev, q⟩ := sE_op1 q
    refine ⟨env, hp, m, S, d, hp', ev, fun v H1 m1 S1 st1 r1 => ?_⟩
    obtain ⟨Fb, m2, x, r, hf, hx, ho, qq⟩ := q v H1 m1 S1 st1 r1
    refine ⟨Fb, m2, x, r, hf, hx, ho, fun p ws ds hp rl => ⟨fun e => ?_, fun e => ?_⟩⟩
    · subst e
      exact qq _ _ (Evl.Ex.new hp) (rep_new_tup hp rl)
    · subst e
      exact qq _ _ (Evl.Ex.new hp) (rep_new_lst hf hp rl)
/-! ### slices -/
theorem evE_op2 {o : Op2} {a b : E} {env : Env} {hp hp' : Heap} {d : D} (ev : evE reprL Γ (.op2 o a b) env hp = some (.ok d hp')) :
    ∃ x h1 y x' y', evE reprL Γ a env hp = some (.ok x h1) ∧ evE reprL Γ b env h1 = some (.ok y hp') ∧ deref hp' x = some x' ∧ deref hp' y = some y' ∧ o2 o x' y' = some d := by
  obtain ⟨x, h1, e1, ev⟩ := bind_some (show R.bind (evE reprL Γ a env hp) _ = _ from ev)
  obtain ⟨y, h2, e2, ev⟩ := bind_some ev
  obtain ⟨e3, z⟩ := lift_ok ev
  subst z
  obtain ⟨x', d1, e3⟩ := Option.bind_eq_some_iff.mp e3
  obtain ⟨y', d2, e3⟩ := Option.bind_eq_some_iff.mp e3
  exact ⟨x, h1, y, x', y', e1, e2, d1, d2, e3⟩
theorem deref_int {h : Heap} {x : D} {i : Int} (e : deref h x = some (.int i)) : x = .int i := by
  cases x with
  | ref k =>
    obtain ⟨_, _, z⟩ := Option.map_eq_some_iff.mp (show (h[k]?).map D.lst = _ from e)
    cases z
  | _ => exact Option.some.inj e
theorem e_sfrom {e a : Expr} {x y : E} {p2 pos : Pos} (he : PE X e (tV X.K Γ g x)) (ha : PE X a (tV X.K Γ g y)) : PE X (.Subscript e (.Slice (some a) none none p2) pos) (tE X.K Γ g (.op2 .sfrom x y)) :=
  peWeak (pe_slice ro_sl he (po_some ha) po_none) fun σ H Q ⟨env, hp, m, S, d, hp', ev, q⟩ => by
    obtain ⟨u, h1, w, u', w', e1, e2, d1, d2, ho⟩ := evE_op2 ev
    refine ⟨env, hp, m, S, u, h1, e1, fun v1 H1 m1 S1 st1 r1 => ⟨env, h1, m1, S1, w, hp', e2, fun v2 H2 m2 S2 st2 r2 => ?_⟩⟩
    have hw : ∃ i, w' = .int i ∧ slD (some i) none u' = some d := by
      cases w' <;> first | exact ⟨_, rfl, ho⟩ | cases ho
    obtain ⟨i, rfl, ho⟩ := hw
    obtain rfl := deref_int d2
    obtain rfl := r2.v.int_inv
    refine ⟨i, rfl, Fbd g env σ m2, m2, u', d, S2.fb, (r1.step (fun a h => S1.at_m h) st2).v.cell S2 d1, ho, fun v H' ex r => ?_⟩
    exact q v H' m2 (S2.ext ex) ((st1.trans st2).trans (Step.ext ex)) r
theorem e_sto {e a : Expr} {x y : E} {p2 pos : Pos} (he : PE X e (tV X.K Γ g x)) (ha : PE X a (tV X.K Γ g y)) : PE X (.Subscript e (.Slice none (some a) none p2) pos) (tE X.K Γ g (.op2 .sto x y)) :=
  peWeak (pe_slice ro_sl he po_none (po_some ha)) fun σ H Q ⟨env, hp, m, S, d, hp', ev, q⟩ => by
    obtain ⟨u, h1, w, u', w', e1, e2, d1, d2, ho⟩ := evE_op2 ev
    refine ⟨env, hp, m, S, u, h1, e1, fun v1 H1 m1 S1 st1 r1 => ⟨env, h1, m1, S1, w, hp', e2, fun v2 H2 m2 S2 st2 r2 => ?_⟩⟩
    have hw : ∃ i, w' = .int i ∧ slD none (some i) u' = some d := by
      cases w' <;> first | exact ⟨_, rfl, ho⟩ | cases ho
    obtain ⟨i, rfl, ho⟩ := hw
    obtain rfl := deref_int d2
    obtain rfl := r2.v.int_inv
    refine ⟨i, rfl, Fbd g env σ m2, m2, u', d, S2.fb, (r1.step (fun a h => S1.at_m h) st2).v.cell S2 d1, ho, fun v H' ex r => ?_⟩
    exact q v H' m2 (S2.ext ex) ((st1.trans st2).trans (Step.ext ex)) r
theorem e_slice {e a b : Expr} {x y z : E} {p2 pos : Pos} (he : PE X e (tV X.K Γ g x)) (ha : PE X a (tV X.K Γ g y)) (hb : PE X b (tV X.K Γ g z)) : PE X (.Subscript e (.Slice (some a) (some b) none p2) pos) (tE X.K Γ g (.op3 .slice x y z)) :=
  peWeak (pe_slice ro_sl he (po_some ha) (po_some hb)) fun σ H Q ⟨env, hp, m, S, d, hp', ev, q⟩ => by
    obtain ⟨u, h1, e1, ev⟩ := bind_some (show R.bind (evE reprL Γ x env hp) _ = _ from ev)
    obtain ⟨i, h2, e2, ev⟩ := bind_some ev
    obtain ⟨j, h3, e3, ev⟩ := bind_some ev
    obtain ⟨ev, hz⟩ := lift_ok ev
    subst hz
    obtain ⟨u', d1, ho⟩ := Option.bind_eq_some_iff.mp ev
    have hw : ∃ k l, i = .int k ∧ j = .int l ∧ slD (some k) (some l) u' = some d := by
      cases i <;> cases j <;> first | exact ⟨_, _, rfl, rfl, ho⟩ | (cases u' <;> cases ho)
    obtain ⟨k, l, rfl, rfl, ho⟩ := hw
    refine ⟨env, hp, m, S, u, h1, e1, fun v1 H1 m1 S1 st1 r1 => ⟨env, h1, m1, S1, _, h2, e2, fun v2 H2 m2 S2 st2 r2 => ?_⟩⟩
    obtain rfl := r2.v.int_inv
    refine ⟨k, rfl, env, h2, m2, S2, _, _, e3, fun v3 H3 m3 S3 st3 r3 => ?_⟩
    obtain rfl := r3.v.int_inv
    refine ⟨l, rfl, Fbd g env σ m3, m3, u', d, S3.fb, ((r1.step (fun a h => S1.at_m h) st2).step (fun a h => S2.at_m h) st3).v.cell S3 d1, ho, fun v H' ex r => ?_⟩
    exact q v H' m3 (S3.ext ex) (((st1.trans st2).trans st3).trans (Step.ext ex)) r
/-! ### a op b op c -/
theorem evE_chain {o o' : Op2} {x y z : E} {env : Env} {hp hp' : Heap} {d : D} (ev : evE reprL Γ (.chain o o' x y z) env hp = some (.ok d hp')) :
    ∃ u h1 w h2 b, evE reprL Γ x env hp = some (.ok u h1) ∧ evE reprL Γ y env h1 = some (.ok w h2) ∧ o2 o u w = some (.bl b) ∧
      (b = true → ∃ t h3, evE reprL Γ z env h2 = some (.ok t h3) ∧ o2 o' w t = some d ∧ hp' = h3) ∧ (b = false → d = .bl false ∧ hp' = h2) := by
  obtain ⟨u, h1, e1, ev⟩ := bind_some (show R.bind (evE reprL Γ x env hp) _ = _ from ev)
  obtain ⟨w, h2, e2, ev⟩ := bind_some ev
  obtain ⟨r, h3, e3, ev⟩ := bind_some ev
  obtain ⟨e6, z1⟩ := lift_ok e3
  subst z1
  cases r with
  | bl b =>
    refine ⟨u, h1, w, _, b, e1, e2, e6, fun hb => ?_, fun hb => ?_⟩
    · subst hb
      obtain ⟨t, h4, e4, ev⟩ := bind_some ev
      obtain ⟨e5, z2⟩ := lift_ok ev
      exact ⟨t, h4, e4, e5, z2⟩
    · subst hb
      obtain ⟨z1, z2⟩ := rok_inj ev
      exact ⟨z1.symm, z2.symm⟩
  | _ => cases ev
theorem s_chain {o o' : Op2} {x y z : E} {σ : St} {H : Hp} {Q : VK} (q0 : tE X.K Γ g (.chain o o' x y z) σ H Q) : tChain (rO2 X.K o) (rO2 X.K o') (tV X.K Γ g x) (tV X.K Γ g y) (tV X.K Γ g z) σ H Q := by
    obtain ⟨env, hp, m, S, d, hp', ev, q⟩ := q0
    obtain ⟨u, h1, w, h2, b, e1, e2, e3, k1, k2⟩ := evE_chain ev
    refine ⟨env, hp, m, S, u, h1, e1, fun v1 H1 m1 S1 st1 r1 => ⟨env, h1, m1, S1, w, h2, e2, fun v2 H2 m2 S2 st2 r2 => ?_⟩⟩
    refine ⟨Fbd g env σ m2, m2, u, w, _, S2.fb, (r1.step (fun a h => S1.at_m h) st2).v, r2.v, e3, fun v H3 ex r => ?_⟩
    cases r
    refine ⟨b, rfl, ?_⟩
    cases b with
    | false =>
      obtain ⟨rfl, rfl⟩ := k2 rfl
      exact iteF (q _ H3 m2 (S2.ext ex) ((st1.trans st2).trans (Step.ext ex)) (.bl _))
    | true =>
      obtain ⟨t, h3, e4, e5, rfl⟩ := k1 rfl
      refine iteT ⟨env, h2, m2, S2.ext ex, t, _, e4, fun v4 H4 m4 S4 st4 r4 => ?_⟩
      refine ⟨Fbd g env σ m4, m4, w, t, d, S4.fb, ((r2.step (fun a h => S2.at_m h) (Step.ext ex)).step (fun a h => (S2.ext ex).at_m h) st4).v, r4.v, e5, fun v5 H5 ex5 r5 => ?_⟩
      exact q v5 H5 m4 (S4.ext ex5) ((((st1.trans st2).trans (Step.ext ex)).trans st4).trans (Step.ext ex5)) r5
theorem e_chain {op op' : CmpOp} {o o' : Op2} {a b c : Expr} {x y z : E} {pos : Pos} (ho : OpR X (compareOp op) (rO2 X.K o)) (ho' : OpR X (compareOp op') (rO2 X.K o')) (ha : PE X a (tV X.K Γ g x)) (hb : PE X b (tV X.K Γ g y))
    (hc : PE X c (tV X.K Γ g z)) (hm : lastMarks [op, op'] [b, c] = false) : PE X (.Compare a [op, op'] [b, c] pos) (tE X.K Γ g (.chain o o' x y z)) :=
  peWeak (pe_chain ho ho' ha hb hc hm) fun σ H Q q => s_chain q
theorem strs_rep {K : PySem.W.Frag} {Fb : Addr → Prop} {m : List Addr} {H : Hp} : ∀ {ws : List V} {ds : List D} {zs : List Str}, RepL K Fb m H ws ds → strs? ds = some zs → ws = zs.map V.str
  | [], [], zs, _, e => by
    cases e
    rfl
  | _ :: _, d :: ds, zs, .cons h t, e => by
    cases d with
    | str z =>
      obtain ⟨y, e1, e2⟩ := Option.map_eq_some_iff.mp (show (strs? ds).map (z :: ·) = some zs from e)
      subst e2
      cases h
      rw [strs_rep t e1]
      rfl
    | _ => cases e
theorem e_join {o e : Expr} {b c : E} {apos pos : Pos} (ho : PE X o (tV X.K Γ g b)) (he : PE X e (tV X.K Γ g c)) (hs : starEach [e] X.env = [(false, eval e X.env)]) (hbase : attributeBase o "join" X.env (eval o X.env) = eval o X.env) (hline : (apos.endLine == pos.line) = true) :
    PE X (.Call (.Attribute o "join" apos) [e] [] pos) (tE X.K Γ g (.op2 .join b c)) :=
  peWeak (pe_join ho he hs hbase hline) fun σ H Q ⟨env, hp, m, S, d, hp', ev, q⟩ => by
    obtain ⟨u, h1, w, u', w', e1, e2, d1, d2, hj⟩ := evE_op2 ev
    have hw : ∃ a ys zs, u' = .str a ∧ w' = .lst ys ∧ strs? ys = some zs ∧ (zs.map (·.length)).sum + zs.length * a.length ≤ LIM ∧ d = .str (Str.join a zs) := by
      cases u' with
      | str a =>
        cases w' with
        | lst ys =>
          obtain ⟨zs, e3, e4⟩ := Option.bind_eq_some_iff.mp (show (strs? ys).bind _ = _ from hj)
          split at e4
          · rename_i hl
            exact ⟨a, ys, zs, rfl, rfl, e3, hl, (Option.some.inj e4).symm⟩
          · cases e4
        | _ => cases hj
      | _ => cases w' <;> cases hj
    obtain ⟨a, ys, zs, rfl, rfl, e3, hl, rfl⟩ := hw
    refine ⟨env, hp, m, S, u, h1, e1, fun v1 H1 m1 S1 st1 r1 => ?_⟩
    have hu : u = .str a := by
      cases u with
      | ref k =>
        obtain ⟨_, _, z⟩ := Option.map_eq_some_iff.mp (show (hp'[k]?).map D.lst = _ from d1)
        cases z
      | _ => exact Option.some.inj d1
    subst hu
    obtain rfl := r1.v.str_inv
    refine ⟨⟨a, rfl⟩, env, h1, m1, S1, w, hp', e2, fun v2 H2 m2 S2 st2 r2 => ?_⟩
    obtain ⟨p, ws, rfl, hq, hr⟩ := (r2.v.cell S2 d2).lst_inv
    refine ⟨a, p, zs, rfl, rfl, .inl ?_, ?_, ?_⟩
    · rw [← strs_rep hr e3]
      exact hq
    · exact hl
    · rw [show Txt.join a zs = Str.join a zs from TL.join_eq a zs]
      exact q _ H2 m2 S2 (st1.trans st2) (.str _)
theorem t_chain {op op' : CmpOp} {o o' : Op2} {a b c : Expr} {x y z : E} {pos : Pos} (ho : OpR X (compareOp op) (rO2 X.K o)) (ho' : OpR X (compareOp op') (rO2 X.K o')) (ha : PE X a (tV X.K Γ g x)) (hb : PE X b (tV X.K Γ g y))
    (hc : PE X c (tV X.K Γ g z)) (hm : lastMarks [op, op'] [b, c] = false) : PT X (.Compare a [op, op'] [b, c] pos) (tT X.K Γ g (.chain o o' x y z)) :=
  ptWeak (pt_chain ho ho' ha hb hc hm) fun σ H Q ⟨env, hp, m, S, c, hp', ev, q⟩ => by
    refine s_chain (Q := fun v H1 => _) ⟨env, hp, m, S, _, hp', ev, fun v H1 m1 S1 st1 r1 => ?_⟩
    cases r1
    exact ⟨c, rfl, q H1 m1 S1 st1⟩
end
end Ev
end

section
set_option Elab.async false
set_option linter.all false
set_option maxRecDepth 100000
namespace Ev
open PySem L2 PyProof.Rows
variable [TabList]
/-! ### a list or a tuple that is walked -/
inductive Src where
  | lst (a : Addr) | tup (a : Addr)
def Src.at : Src → Addr
  | .lst a => a
  | .tup a => a
def Src.sq (K : PySem.W.Frag) (H : Hp) : Src → List V → Prop
  | .lst a, xs => SqL K H a xs
  | .tup a, xs => SqT K H a xs
def Src.it (h : PySem.Heap) (p : Addr) (i : Nat) : Src → Prop
  | .lst a => h.IsListIter p a i
  | .tup a => h.IsTupleIter p a i
def Src.has (h : PySem.Heap) (its : Array Value) : Src → Prop
  | .lst a => h.IsList a its
  | .tup a => h.IsTuple a its
def Src.obj : Src → Obj
  | .lst a => { cls := .type "list_iterator", data := .fields #[.ref a, .int 0 0] }
  | .tup a => { cls := .type "tuple_iterator", data := .fields #[.ref a, .int 0 0] }
theorem Src.draws {prog : Program} {w : World} {A : Around} (hh : A.handled = none) (p : Addr) (c : Src) (hne : c.at ≠ p) (its : Array Value) :
    Draws prog w A p [p, c.at] its.size (fun i v => its[i]? = some v) (fun i h => c.it h p i ∧ c.has h its) := by
  cases c with
  | lst a => exact Draws.list hh p a hne its
  | tup a => exact Draws.tuple hh p a hne its
theorem Src.begins (c : Src) (its : Array Value) : Begins (.ref c.at) c.obj fun h => c.has h its := by
  cases c with
  | lst a => exact begins_list a its
  | tup a => exact begins_tuple a its
theorem Src.it_at {h h' : PySem.Heap} {p : Addr} {i : Nat} {c : Src} (x : c.it h p i) (e : ∀ o, h.get? p = some o → h'.get? p = some o) : c.it h' p i := by
  cases c with
  | lst a => exact Heap.IsListIter.at x e
  | tup a => exact Heap.IsTupleIter.at x e
theorem Src.it_obj {h : PySem.Heap} {p : Addr} {i : Nat} {c : Src} (x : c.it h p i) : ∃ o, h.get? p = some o ∧ ∀ v, o.data ≠ .cell v := by
  cases c with
  | lst a =>
    obtain ⟨o, e, _, d⟩ := x
    exact ⟨o, e, fun v q => by rw [d] at q; cases q⟩
  | tup a =>
    obtain ⟨o, e, _, d⟩ := x
    exact ⟨o, e, fun v q => by rw [d] at q; cases q⟩
theorem Src.new {h : PySem.Heap} {p : Addr} {c : Src} (e : h.get? p = some c.obj) : c.it h p 0 := by
  cases c with
  | lst a => exact ⟨_, e, rfl, rfl⟩
  | tup a => exact ⟨_, e, rfl, rfl⟩
section
variable {X : Cx} {s : Shared} {pins : List (Addr × Obj)} {σ : L2.St} {H : Hp}
theorem Src.items (I : L2.Inv X pins σ H s) {c : Src} {xs : List V} (h : c.sq X.K H xs) : ∃ its : List Value, Vals xs its ∧ c.has s.heap its.toArray ∧ xs.length ≤ sizeLine := by
  cases c with
  | lst a =>
    obtain ⟨its, r, p, z⟩ := I.list h
    exact ⟨its, r, p.isList, z⟩
  | tup a =>
    obtain ⟨its, r, p, z⟩ := I.tuple h
    exact ⟨its, r, p, z⟩
theorem Src.inj (I : L2.Inv X pins σ H s) {c : Src} {xs ys : List V} (h : c.sq X.K H xs) (h' : c.sq X.K H ys) : xs = ys := by
  cases c with
  | lst a => exact I.list_inj h h'
  | tup a => exact I.tuple_inj h h'
theorem Src.lt (h : PySem.Heap) {c : Src} {its : Array Value} (x : c.has h its) : c.at < h.objs.size := by
  cases c with
  | lst a =>
    obtain ⟨o, e, _⟩ := x
    exact Heap.lt_size e
  | tup a =>
    obtain ⟨o, e, _⟩ := x
    exact Heap.lt_size e
end
/-- x is a's item i, whatever values a is told to have -/
def Src.gives (K : PySem.W.Frag) (H : Hp) (a : Src) (i : Nat) (x : V) : Prop := ∀ vs, a.sq K H vs → vs[i]? = some x
/-- v is a new pair -/
def NewPair (H H' : Hp) (v : V) (T : Addr) (x y : V) : Prop := v = .ref T ∧ H T = none ∧ H' = upd H T (.tup [x, y])
/-- the items as they stand at each turn, two of them in a new pair -/
def It2 (K : PySem.W.Frag) (a b : Src) : It where
  go i H := ∃ (xs ys : List V) (x y : V), a.sq K H xs ∧ b.sq K H ys ∧ xs[i]? = some x ∧ ys[i]? = some y
  yld i H v H' := ∃ T x y, NewPair H H' v T x y ∧ a.gives K H i x ∧ b.gives K H i y
  stop i H := ∃ xs ys : List V, a.sq K H xs ∧ b.sq K H ys ∧ i = min xs.length ys.length
structure Apart2 (z TI TO i1 i2 : Addr) (a b : Src) : Prop where
  sep : ZipSep2 z TI TO i1 i2 [i1, a.at] [i2, b.at]
  n1 : a.at ≠ i1
  n2 : b.at ≠ i2
theorem turn2 {P : Program} {w : World} {K : PySem.W.Frag} {elts : List Expr} {kk : Nat} {tpos : Pos} {a b : Src} {z TI TO i1 i2 : Addr} (D : Apart2 z TI TO i1 i2 a b) :
    Turn P w K (.Tuple elts kk tpos) (It2 K a b) [z, TI, TO, i1, i2] z (fun i h => IsZip h z TI TO .none ∧ IsTupOf2 h TI (.ref i1) (.ref i2) ∧ (∃ a1 a2, IsTupOf2 h TO a1 a2) ∧ a.it h i1 i ∧ b.it h i2 i) where
  mem := by simp
  obj := fun i h st c hc => by
    obtain ⟨h1, h2, ⟨a1, a2, h3⟩, h4, h5⟩ := st
    simp only [List.mem_cons, List.not_mem_nil, or_false] at hc
    rcases hc with e | e | e | e | e <;> subst e
    · exact ⟨_, h1, fun v q => nomatch q⟩
    · exact ⟨_, h2, fun v q => nomatch q⟩
    · exact ⟨_, h3, fun v q => nomatch q⟩
    · exact Src.it_obj h4
    · exact Src.it_obj h5
  keep := fun i h h' st k => by
    obtain ⟨h1, h2, ⟨a1, a2, h3⟩, h4, h5⟩ := st
    exact ⟨k z (by simp) _ h1, k TI (by simp) _ h2, ⟨a1, a2, k TO (by simp) _ h3⟩, Src.it_at h4 (fun o => k i1 (by simp) o), Src.it_at h5 (fun o => k i2 (by simp) o)⟩
  item := by
    intro X hP hw hK hc i pn s σ H E I hf st hg
    subst hP hw hK
    obtain ⟨h1, h2, h3, h4, h5⟩ := st
    obtain ⟨xs, ys, x, y, hx, hy, ex, ey⟩ := hg
    obtain ⟨its, r1, p1, _⟩ := Src.items I hx
    obtain ⟨jts, r2, p2, _⟩ := Src.items I hy
    have hh : X.A.in1.handled = none := I.ok.hd hc
    have G := GoesN.zip2 (elts := elts) (x1 := kk) (pos := tpos) D.sep (Src.draws (prog := X.prog) (w := X.w) hh i1 a D.n1 its.toArray) (Src.draws (prog := X.prog) (w := X.w) hh i2 b D.n2 jts.toArray)
    have hi1 := (List.getElem?_eq_some_iff.mp ex).1
    have hi2 := (List.getElem?_eq_some_iff.mp ey).1
    have hi : i < min its.toArray.size jts.toArray.size := by
      rw [List.size_toArray, ← r1.length, List.size_toArray, ← r2.length]
      omega
    refine wpAny_mono (G.goes i s (fun v s2 => ∃ x0 H', L2.Inv X pn σ H' s2 ∧ RelV x0 v ∧ (It2 X.K a b).yld i H x0 H' ∧ (IsZip s2.heap z TI TO .none ∧ IsTupOf2 s2.heap TI (.ref i1) (.ref i2) ∧ (∃ a1 a2, IsTupOf2 s2.heap TO a1 a2) ∧ a.it s2.heap i1 (i + 1) ∧ b.it s2.heap i2 (i + 1)) ∧ ∀ b ∈ [z, TI, TO, i1, i2], H' b = none)
      E hi ⟨h1, h2, h3, ⟨h4, p1⟩, ⟨h5, p2⟩⟩ fun v h' tk hY hS hk _ => ?_) (fun r s1 hr => ?_) fun _ _ q => q
    · obtain ⟨T, u1, u2, rfl, hT, e1, e2, hTup⟩ := hY
      obtain ⟨g1, g2, g3, ⟨g4, _⟩, ⟨g5, _⟩⟩ := hS
      obtain ⟨w1, f1, rv1⟩ := r1.get ex
      obtain ⟨w2, f2, rv2⟩ := r2.get ey
      have e1 : its[i]? = some u1 := by simpa using e1
      have e2 : jts[i]? = some u2 := by simpa using e2
      rw [f1] at e1
      rw [f2] at e2
      cases e1
      cases e2
      have new : ObjOk X.prog X.w (upd H T (.tup [x, y])) h' T (.tup [x, y]) := ⟨by show 2 ≤ sizeLine; decide, [u1, u2], .cons rv1 (.cons rv2 .nil), hTup⟩
      have I1 : L2.Inv X pn σ (upd H T (.tup [x, y])) { s with heap := h', toks := tk } :=
        I.turnedNew (ch := [z, TI, TO, i1, i2]) (fun c o hc e => hk c o (fun q => hc (by
          simp only [List.mem_cons, List.not_mem_nil, or_false] at q ⊢
          rcases q with q | q | q | q <;> simp [q])) e) hf hT new
      refine ⟨.ref T, _, I1, rfl, ⟨T, x, y, ⟨rfl, I.hok.fresh hT, rfl⟩, fun xs' hx' => by rw [Src.inj I hx' hx]; exact ex, fun ys' hy' => by rw [Src.inj I hy' hy]; exact ey⟩, ⟨g1, g2, g3, g4, g5⟩, fun c hcm => ?_⟩
      have hlt : c < s.heap.objs.size := by
        obtain ⟨a1, a2, h3'⟩ := h3
        obtain ⟨o1, q1, _⟩ := Src.it_obj h4
        obtain ⟨o2, q2, _⟩ := Src.it_obj h5
        simp only [List.mem_cons, List.not_mem_nil, or_false] at hcm
        rcases hcm with e | e | e | e | e <;> subst e
        · exact Heap.lt_size h1
        · exact Heap.lt_size h2
        · exact Heap.lt_size h3'
        · exact Heap.lt_size q1
        · exact Heap.lt_size q2
      rw [upd_ne (Nat.ne_of_lt (Nat.lt_of_lt_of_le hlt hT))]
      exact (hf c hcm).1
    · obtain ⟨v, hv, hq⟩ := hr
      exact ⟨v, hv, hq⟩
  done := by
    intro X hP hw hK hc i pn s σ H E I hf st hg
    subst hP hw hK
    obtain ⟨h1, h2, h3, h4, h5⟩ := st
    obtain ⟨xs, ys, hx, hy, hl⟩ := hg
    obtain ⟨its, r1, p1, _⟩ := Src.items I hx
    obtain ⟨jts, r2, p2, _⟩ := Src.items I hy
    have hh : X.A.in1.handled = none := I.ok.hd hc
    have G := GoesN.zip2 (elts := elts) (x1 := kk) (pos := tpos) D.sep (Src.draws (prog := X.prog) (w := X.w) hh i1 a D.n1 its.toArray) (Src.draws (prog := X.prog) (w := X.w) hh i2 b D.n2 jts.toArray)
    have e : i = min its.toArray.size jts.toArray.size := by
      rw [List.size_toArray, ← r1.length, List.size_toArray, ← r2.length]
      exact hl
    rw [e] at h4 h5
    refine G.stops s _ E ⟨h1, h2, h3, ⟨h4, p1⟩, ⟨h5, p2⟩⟩ fun h' tk hk _ => ?_
    exact I.turnedL (t' := tk) (ch := [z, TI, TO, i1, i2]) (fun c o hc e => hk c o (fun q => hc (by
          simp only [List.mem_cons, List.not_mem_nil, or_false] at q ⊢
          rcases q with q | q | q | q <;> simp [q])) e) hf
  self := fun _ _ _ _ _ st k => wpAny_pyIter_zip st.1 k
def i2 (K : PySem.W.Frag) (ta : TA) : TI := fun σ H R => ta σ H fun vs H1 => ∃ (a b : Src) (xs ys : List V), vs = [.ref a.at, .ref b.at] ∧ a.sq K H1 xs ∧ b.sq K H1 ys ∧ (xs.length ≤ sizeLine → R (It2 K a b) H1)
/-- what lies on top of the heap is free for a walk -/
theorem free_new {X : Cx} {pn : List (Addr × Obj)} {σ : L2.St} {H : Hp} {s : Shared} (I : L2.Inv X pn σ H s) {cs : List Addr} (new : ∀ c ∈ cs, s.heap.objs.size ≤ c) (c : Addr) (m : c ∈ cs) : FpOk X pn H c := I.fpOk (new c m) (I.hok.fresh (new c m))
theorem new_cells (n : Nat) : ∀ c ∈ [n + 4, n + 2, n + 3, n, n + 1], n ≤ c := fun c m => by
  simp only [List.mem_cons, List.not_mem_nil, or_false] at m
  omega
theorem pi_zip2 {X : Cx} {e e2 : Expr} {ta : TA} {p at_ tup : Pos} {names : List Expr} {k : Nat} (global : Gl X "zip") (ours : X.mg "zip" = none) (args : PA X [e, e2] ta)
    (two : starEach [e, e2] X.env = (false, eval e X.env) :: starEach [e2] X.env) (no_star : (backTo at_ (starEach [e2] X.env)).any (·.1) = false) : PI X (.Tuple names k tup) (.Call (.Name "zip" p) [e, e2] [] at_) (i2 X.K ta) :=
  ⟨fun pn s σ H R I t => Call_ (ld_blt I global ours PyProof.Rows.boot_zip (PyProof.Rows.callWith_type1 (thn (args.run at_ pn s σ H _ I t) fun us z ⟨vs, H1, J, r, src⟩ => by
    obtain ⟨a, b, xs, ys, rfl, rowA, rowB, walk⟩ := src
    obtain ⟨u, v, rfl, ra, rb⟩ := Vals.two r
    cases ra
    cases rb
    have ⟨its, _, cellA, few⟩ := Src.items J rowA
    have ⟨jts, _, cellB, _⟩ := Src.items J rowB
    have la := Src.lt _ cellA
    have lb := Src.lt _ cellB
    generalize hn : z.heap.objs.size = n at la lb
    have apart : Apart2 (n + 4) (n + 2) (n + 3) n (n + 1) a b := ⟨zip_sep2 (fp1 := [a.at]) (fp2 := [b.at]) (fun c m => List.mem_singleton.mp m ▸ la) (fun c m => List.mem_singleton.mp m ▸ lb), Nat.ne_of_lt la, Nat.ne_of_lt (Nat.lt_succ_of_lt lb)⟩
    refine zip_begins2 (Src.begins a its.toArray) (Src.begins b jts.toArray) cellA cellB fun h' zipped inner outer first second size keep => wpAny_pyIter_zip zipped ?_
    subst hn
    exact ⟨_, _, _, _, H1, rfl, J.kept (t' := z.toks) keep, turn2 apart, ⟨zipped, inner, ⟨_, _, outer⟩, Src.new first, Src.new second⟩, free_new J (new_cells _), walk few⟩) two no_star))⟩
/-! ### enumerate -/
def It1 (K : PySem.W.Frag) (a : Src) : It where
  go i H := ∃ (xs : List V) (x : V), a.sq K H xs ∧ xs[i]? = some x
  yld i H v H' := ∃ T x, NewPair H H' v T (.int (i : Nat)) x ∧ a.gives K H i x
  stop i H := ∃ xs : List V, a.sq K H xs ∧ i = xs.length
theorem turn1 {P : Program} {w : World} {K : PySem.W.Frag} {elts : List Expr} {kk : Nat} {tpos : Pos} {a : Src} {e it : Addr} (n1 : e ≠ it) (n2 : e ≠ a.at) (n3 : a.at ≠ it) :
    Turn P w K (.Tuple elts kk tpos) (It1 K a) [e, it] e (fun i h => (∃ old, IsEnum h e it ((i : Nat) : Int) old) ∧ a.it h it i) where
  mem := by simp
  obj := fun i h st c hc => by
    obtain ⟨⟨old, h1⟩, h2⟩ := st
    simp only [List.mem_cons, List.not_mem_nil, or_false] at hc
    rcases hc with e | e <;> subst e
    · exact ⟨_, h1, fun v q => nomatch q⟩
    · exact Src.it_obj h2
  keep := fun i h h' st k => by
    obtain ⟨⟨old, h1⟩, h2⟩ := st
    exact ⟨⟨old, k e (by simp) _ h1⟩, Src.it_at h2 (fun o => k it (by simp) o)⟩
  item := by
    intro X hP hw hK hc i pn s σ H E I hf st hg
    subst hP hw hK
    obtain ⟨h1, h2⟩ := st
    obtain ⟨xs, x, hx, ex⟩ := hg
    obtain ⟨its, r1, p1, _⟩ := Src.items I hx
    have hh : X.A.in1.handled = none := I.ok.hd hc
    have G := GoesN.enumFrom (elts := elts) (x1 := kk) (pos := tpos) 0 (Src.draws (prog := X.prog) (w := X.w) hh it a n3 its.toArray) e n1 (by simp [n1, n2]) (by simp)
    have hi : i < its.toArray.size := by
      have := (List.getElem?_eq_some_iff.mp ex).1
      rw [List.size_toArray, ← r1.length]
      omega
    refine wpAny_mono (G.goes i s (fun v s2 => ∃ x0 H', L2.Inv X pn σ H' s2 ∧ RelV x0 v ∧ (It1 X.K a).yld i H x0 H' ∧ ((∃ old, IsEnum s2.heap e it ((i + 1 : Nat) : Int) old) ∧ a.it s2.heap it (i + 1)) ∧ ∀ b ∈ [e, it], H' b = none)
      E hi ⟨by simpa using h1, ⟨h2, p1⟩⟩ fun v h' tk hY hS hk _ => ?_) (fun r s1 hr => ?_) fun _ _ q => q
    · obtain ⟨T, t, u1, rfl, hT, e1, hTup⟩ := hY
      obtain ⟨g1, g2, _⟩ := hS
      obtain ⟨w1, f1, rv1⟩ := r1.get ex
      have e1 : its[i]? = some u1 := by simpa using e1
      rw [f1] at e1
      cases e1
      rw [Int.zero_add] at hTup
      have new : ObjOk X.prog X.w (upd H T (.tup [.int (i : Nat), x])) h' T (.tup [.int (i : Nat), x]) := ⟨by show 2 ≤ sizeLine; decide, [.int (i : Nat) t, u1], .cons ⟨_, rfl⟩ (.cons rv1 .nil), hTup⟩
      have I1 : L2.Inv X pn σ (upd H T (.tup [.int (i : Nat), x])) { s with heap := h', toks := tk } := I.turnedNew (ch := [e, it]) (fun c o hc q => hk c o hc q) hf hT new
      refine ⟨.ref T, _, I1, rfl, ⟨T, x, ⟨rfl, I.hok.fresh hT, rfl⟩, fun xs' hx' => by rw [Src.inj I hx' hx]; exact ex⟩, ⟨by simpa using g1, g2⟩, fun c hcm => ?_⟩
      have hlt : c < s.heap.objs.size := by
        obtain ⟨old, h1'⟩ := h1
        obtain ⟨o1, q1, _⟩ := Src.it_obj h2
        simp only [List.mem_cons, List.not_mem_nil, or_false] at hcm
        rcases hcm with e | e <;> subst e
        · exact Heap.lt_size h1'
        · exact Heap.lt_size q1
      rw [upd_ne (Nat.ne_of_lt (Nat.lt_of_lt_of_le hlt hT))]
      exact (hf c hcm).1
    · obtain ⟨v, hv, hq⟩ := hr
      exact ⟨v, hv, hq⟩
  done := by
    intro X hP hw hK hc i pn s σ H E I hf st hg
    subst hP hw hK
    obtain ⟨h1, h2⟩ := st
    obtain ⟨xs, hx, hl⟩ := hg
    obtain ⟨its, r1, p1, _⟩ := Src.items I hx
    have hh : X.A.in1.handled = none := I.ok.hd hc
    have G := GoesN.enumFrom (elts := elts) (x1 := kk) (pos := tpos) 0 (Src.draws (prog := X.prog) (w := X.w) hh it a n3 its.toArray) e n1 (by simp [n1, n2]) (by simp)
    have e : i = its.toArray.size := by
      rw [List.size_toArray, ← r1.length]
      exact hl
    rw [e] at h1 h2
    refine G.stops s _ E ⟨by simpa using h1, ⟨h2, p1⟩⟩ fun h' tk hk _ => ?_
    exact I.turnedL (t' := tk) hk hf
  self := fun _ _ _ _ _ st k => wpAny_pyIter_enum st.1.choose_spec k
end Ev
end

section
set_option Elab.async false
set_option linter.all false
set_option maxRecDepth 100000
namespace Ev
open PySem L2 PyProof.Rows
variable [TabList]
/-! ### enumerate(v) -/
/-- the cell that counts, over the iterator at it -/
abbrev counter (it : Addr) : Obj := { cls := .type "enumerate", data := .fields #[.none, .bool false, .ref it, rawInt 0, .none, .none] }
/-- the heap with an iterator and its counter on top -/
abbrev counted (h : PySem.Heap) (o : Obj) : PySem.Heap := (h.push o).push (counter h.objs.size)
theorem counted_is (h : PySem.Heap) (o : Obj) : IsEnum (counted h o) (h.push o).objs.size h.objs.size 0 .none := Heap.get?_push_size (h.push o) (o := counter h.objs.size) rfl
theorem new_counter {v : Value} {o : Obj} {H : PySem.Heap → Prop} (B : Begins v o H) :
    Meets (Builtin.«enumerate.__new__» ⟨[.type "enumerate", v], []⟩) fun _ R s => H s.heap ∧ R (.ok (.ret (.ref (s.heap.push o).objs.size))) { s with heap := counted s.heap o } :=
  .of_wp fun P w A R ⟨h, gens, drawn, toks, os⟩ ⟨begins, answer⟩ => by
    have begun {A' : Around} {Q E : Value → Shared → Prop} (q : Q (.ref h.objs.size) ⟨h.push o, gens, drawn, toks, os⟩) : wpAny (model P w) A' (pyIter v) Q E ⟨h, gens, drawn, toks, os⟩ := B.iter P w _ _ ⟨h, gens, drawn, toks, os⟩ _ begins q
    have itself := sub_enumerate
    wp_walk using begun
    -- who asks is looked at, and does not matter
    refine wpAny_stack_any fun frames => wpAny_pure ?_
    split
    · rename_i asks _ _ _ _ _
      by_cases same : (asks == Value.type "enumerate") = true
      · simp only [same]
        wp_walk using begun
        exact ⟨_, rfl, answer⟩
      · simp only [Bool.eq_false_iff.mpr same]
        wp_walk using begun
        exact ⟨_, rfl, answer⟩
    · wp_walk using begun
      exact ⟨_, rfl, answer⟩
def i1 (K : PySem.W.Frag) (ta : TA) : TI := fun σ H R => ta σ H fun vs H1 => ∃ (a : Src) (xs : List V), vs = [.ref a.at] ∧ a.sq K H1 xs ∧ (xs.length ≤ sizeLine → R (It1 K a) H1)
theorem starts1 {P : Program} {w : World} {A : Around} {s : Shared} {v : Value} {o : Obj} {H : PySem.Heap → Prop} {Q E : Value → Shared → Prop} (B : Begins v o H) (begins : H s.heap) (q : Q (.ref (s.heap.push o).objs.size) { s with heap := counted s.heap o }) :
    wpAny (model P w) A (call (.type "enumerate") [v]) Q E s :=
  callType_new F.called_enumerate (by decide) (F.typeCall_enumerate_1 _) (F.newCall_enumerate_1 _) (fun _ => F.args_object_init_2 _ _) F.entry_enumerate_new (new_counter B) ⟨begins, ⟨_, counted_is _ _, rfl⟩, q⟩
theorem pi_enum1 {X : Cx} {e : Expr} {ta : TA} {p at_ tup : Pos} {names : List Expr} {k : Nat} (global : Gl X "enumerate") (ours : X.mg "enumerate" = none) (arg : PA X [e] ta) (one : starEach [e] X.env = [(false, eval e X.env)]) :
    PI X (.Tuple names k tup) (.Call (.Name "enumerate" p) [e] [] at_) (i1 X.K ta) :=
  ⟨fun pn s σ H R I t => Call_ (ld_blt I global ours boot_enumerate (PyProof.Rows.callWith_type1 (thn (arg.run at_ pn s σ H _ I t) fun us z ⟨vs, H1, J, r, src⟩ => by
    obtain ⟨a, xs, rfl, row, walk⟩ := src
    obtain ⟨u, rfl, same⟩ := Vals.one r
    cases same
    have ⟨its, _, cell, few⟩ := Src.items J row
    have lt := Src.lt _ cell
    have keep : ∀ b ob, z.heap.get? b = some ob → (counted z.heap a.obj).get? b = some ob := fun b ob e => Heap.get?_push_of_some _ (Heap.get?_push_of_some _ e)
    have up : (z.heap.push a.obj).objs.size = z.heap.objs.size + 1 := Heap.size_push ..
    have begun := Src.begins a its.toArray
    have counting : IsEnum (counted z.heap a.obj) (z.heap.objs.size + 1) z.heap.objs.size 0 .none := up ▸ counted_is z.heap a.obj
    have first := Heap.get?_push_of_some (counter z.heap.objs.size) (Heap.get?_push_size z.heap (o := a.obj) begun.free)
    refine starts1 begun cell ?_
    rw [up]
    exact wpAny_pyIter_enum counting ⟨z.heap.objs.size + 1, [z.heap.objs.size + 1, z.heap.objs.size], _, _, H1, rfl, J.kept (t' := z.toks) keep, turn1 (a := a) (Nat.succ_ne_self _) (Nat.ne_of_gt (Nat.lt_succ_of_lt lt)) (Nat.ne_of_lt lt),
      ⟨⟨.none, counting⟩, Src.new first⟩, free_new J (fun c m => (List.mem_cons.mp m).elim (fun e => e ▸ Nat.le_succ _) fun m => Nat.le_of_eq (List.eq_of_mem_singleton m).symm), walk few⟩) one rfl))⟩
/-! ### a list, a tuple or a text, whichever it is -/
def i0 (K : PySem.W.Frag) (te : TE) : TI := fun σ H R => te σ H fun x H1 => (∃ (a : Addr) (xs : List V), x = .ref a ∧ SqL K H1 a xs ∧ (xs.length ≤ sizeLine → R (Itl K a) H1)) ∨ (∃ (a : Addr) (xs : List V), x = .ref a ∧ SqT K H1 a xs ∧ (xs.length ≤ sizeLine → R (Itt K a) H1)) ∨ ∃ z, x = .str z ∧ R (Its z) H1
theorem pi_any {X : Cx} {tg e : Expr} {te : TE} (he : PE X e te) : PI X tg e (i0 X.K te) := by
  refine ⟨fun pn s σ H R I k => ?_⟩
  -- what e yields is known only as it runs: the rest is the rule of its kind
  refine thn (he.run pn s σ H _ I k) fun v s1 ⟨x, H1, I1, r1, q1⟩ => ?_
  rcases q1 with ⟨a, xs, rfl, hq, q⟩ | ⟨a, xs, rfl, hq, q⟩ | ⟨z, rfl, q⟩
  · cases r1
    obtain ⟨us, rv, p, hz⟩ := I1.list hq
    exact wpAny_pyIter_list p.isList (pi_one (tk := s1.toks) I1 _ (turn_list a _) ⟨_, Heap.get?_push_size _ rfl, rfl, rfl⟩ (q hz))
  · cases r1
    obtain ⟨us, rv, p, hz⟩ := I1.tuple hq
    exact wpAny_pyIter_tuple (show s1.heap.IsTuple a us.toArray from p) (pi_one (tk := s1.toks) I1 _ (turn_tuple a _) ⟨_, Heap.get?_push_size _ rfl, rfl, rfl⟩ (q hz))
  · obtain ⟨t, rfl⟩ := r1
    by_cases ha : z.cps.all (· < 128) = true
    · exact wpAny_pyIter_ascii ha (pi_one (tk := s1.toks) I1 _ (turn_str _ z t "str_ascii_iterator" (.inl rfl)) ⟨_, Heap.get?_push_size _ rfl, rfl, rfl⟩ q)
    · exact wpAny_pyIter_wide (Bool.not_eq_true _ ▸ ha) (pi_one (tk := s1.toks) I1 _ (turn_str _ z t "str_iterator" (.inr rfl)) ⟨_, Heap.get?_push_size _ rfl, rfl, rfl⟩ q)
end Ev
end

section
set_option Elab.async false
set_option linter.all false
set_option maxRecDepth 100000
namespace Ev
open PySem L2 PyProof.Rows
variable [TabList]
/-- what a statement may do -/
structure SStep (env : Env) (σ : L2.St) (m : List Addr) (H : Hp) (env' : Env) (σ' : L2.St) (m' : List Addr) (H' : Hp) : Prop where
  more : ∃ r, m' = m ++ r ∧ ∀ a ∈ r, H a = none
  keep : ∀ a o (_ : H a = some o) (_ : a ∉ m) (_ : ¬ isOwn env σ a) (_ : NT o := by intro ps z; cases z), H' a = some o ∧ ¬ isOwn env' σ' a
  there : ∀ a o, H a = some o → ∃ o', H' a = some o'
  tabs : ∀ T, LamX.Tabs T H → LamX.Tabs T H'
section
variable {K : PySem.W.Frag} {g : Gh} {env env' env'' : Env} {hp hp' : Heap} {m m' m'' : List Addr} {σ σ' σ'' : L2.St} {H H' H'' : Hp}
theorem SStep.refl : SStep env σ m H env σ m H := ⟨⟨[], by simp, by simp⟩, fun _ _ h _ n _ => ⟨h, n⟩, fun _ o h => ⟨o, h⟩, fun _ t => t⟩
theorem SStep.of (s : Step m H m' H') (so : SameOwn env σ env' σ') : SStep env σ m H env' σ' m' H' := ⟨s.more, fun a o h n k nt => ⟨s.keep a o h n nt, fun z => k ((so a).mp z)⟩, s.there, s.tabs⟩
theorem SStep.off (s : SStep env σ m H env' σ' m' H') {a : Addr} {o : HO} (h : H a = some o) (n : a ∉ m) : a ∉ m' := by
  obtain ⟨⟨r, e, f⟩, _, _, _⟩ := s
  subst e
  intro z
  rcases List.mem_append.mp z with q | q
  · exact n q
  · rw [f a q] at h
    cases h
theorem SStep.trans (a : SStep env σ m H env' σ' m' H') (b : SStep env' σ' m' H' env'' σ'' m'' H'') : SStep env σ m H env'' σ'' m'' H'' := by
  refine ⟨?_, fun x o h n k nt => ?_, fun x o h => ?_, fun T t => b.tabs T (a.tabs T t)⟩
  · obtain ⟨r, e1, f1⟩ := a.more
    obtain ⟨q, e2, f2⟩ := b.more
    subst e1 e2
    refine ⟨r ++ q, by simp, fun x hx => ?_⟩
    obtain h | h := List.mem_append.mp hx
    · exact f1 x h
    · cases e : H x with
      | none => rfl
      | some o =>
        obtain ⟨o', h'⟩ := a.there x o e
        rw [f2 x h] at h'
        cases h'
  · obtain ⟨h1, k1⟩ := a.keep x o h n k nt
    exact b.keep x o h1 (a.off h n) k1 nt
  · obtain ⟨o', h'⟩ := a.there x o h
    exact b.there x o' h'
theorem SStep.get (s : SStep env σ m H env' σ' m' H') {k : Nat} {a : Addr} (h : m[k]? = some a) : m'[k]? = some a := by
  obtain ⟨⟨r, e, _⟩, _, _, _⟩ := s
  subst e
  obtain ⟨hl, hv⟩ := List.getElem?_eq_some_iff.mp h
  rw [List.getElem?_append_left hl]
  exact h
theorem StRel.at_own (S : StRel K g env hp m σ H) {a : Addr} (h : isOwn env σ a) : ∃ vs, H a = some (.lst vs) := by
  obtain ⟨i, d, h1, h2⟩ := h
  obtain ⟨b, vs, ds, e1, _, e2, _⟩ := S.slots i _ h1
  rw [h2] at e1
  cases e1
  exact ⟨vs, e2⟩
theorem StRel.own_new (S : StRel K g env hp m σ H) {a : Addr} (h : isOwn env σ a) : g.H0 a = none := by
  obtain ⟨i, d, h1, h2⟩ := h
  obtain ⟨b, vs, ds, e1, _, _, _, e2, _⟩ := S.slots i _ h1
  rw [h2] at e1
  cases e1
  exact e2
theorem sqt_sstep (S : StRel K g env hp m σ H) (s : SStep env σ m H env' σ' m' H') {a : Addr} {vs : List V} (h : SqT K H a vs) : SqT K H' a vs := by
  have nm : ∀ {o : HO}, H a = some o → (∀ vs, o ≠ .lst vs) → a ∉ m := fun {o} e n z => by
    obtain ⟨vs, e'⟩ := S.at_m z
    rw [e] at e'
    exact n _ (Option.some.inj e')
  have no : ∀ {o : HO}, H a = some o → (∀ vs, o ≠ .lst vs) → ¬ isOwn env σ a := fun {o} e n z => by
    obtain ⟨vs, e'⟩ := S.at_own z
    rw [e] at e'
    exact n _ (Option.some.inj e')
  obtain (h | ⟨o, h⟩) | h := h
  · exact .inl (.inl (s.keep a _ h (nm h fun _ e => by cases e) (no h fun _ e => by cases e)).1)
  · exact .inl (.inr ⟨o, (s.keep a _ h (nm h fun _ e => by cases e) (no h fun _ e => by cases e)).1⟩)
  · exact .inr h
theorem fbd_sstep (s : SStep env σ m H env' σ' m' H') {a : Addr} {o : HO} (h : H a = some o) (n : ¬ Fbd g env σ m a) (nt : NT o := by intro ps z; cases z) : H' a = some o ∧ ¬ Fbd g env' σ' m' a := by
  have hm : a ∉ m := fun z => n (.inr (.inr z))
  obtain ⟨h1, h2⟩ := s.keep a o h hm (fun z => n (.inr (.inl z))) nt
  refine ⟨h1, ?_⟩
  rintro (z | z | z)
  · exact n (.inl z)
  · exact h2 z
  · exact s.off h hm z
theorem Rep.sstep (S : StRel K g env hp m σ H) (s : SStep env σ m H env' σ' m' H') {v : V} {d : D} (r : Rep K (Fbd g env σ m) m H v d) : Rep K (Fbd g env' σ' m') m' H' v d :=
  r.move (fun _ _ h => sqt_sstep S s h) (fun a vs h n => fbd_sstep s h n) fun _ _ h => s.get h
theorem RepL.sstep (S : StRel K g env hp m σ H) (s : SStep env σ m H env' σ' m' H') {v : List V} {d : List D} (r : RepL K (Fbd g env σ m) m H v d) : RepL K (Fbd g env' σ' m') m' H' v d :=
  r.move (fun _ _ h => sqt_sstep S s h) (fun a vs h n => fbd_sstep s h n) fun _ _ h => s.get h

/-! ### a list under construction is caught by nothing -/
def Gh.guard (g : Gh) (a : Addr) : Gh := { g with Pr := fun b => g.Pr b ∨ b = a }
theorem guard_fbd {a b : Addr} : Fbd (g.guard a) env σ m b ↔ Fbd g env σ m b ∨ b = a := by
  unfold Fbd Gh.guard
  constructor
  · rintro ((h | h) | h | h)
    · exact .inl (.inl h)
    · exact .inr h
    · exact .inl (.inr (.inl h))
    · exact .inl (.inr (.inr h))
  · rintro ((h | h | h) | h)
    · exact .inl (.inl h)
    · exact .inr (.inl h)
    · exact .inr (.inr h)
    · exact .inl (.inr h)
theorem guard_step {L : Addr} (s : Step m H m' H') (hD : H L = none) {a : Addr} {o : HO} (h : H a = some o) (n : ¬ Fbd g env σ m a) (nt : NT o := by intro ps z; cases z) : H' a = some o ∧ ¬ Fbd (g.guard L) env σ m' a :=
  ⟨s.keep a _ h (fun z => n (.inr (.inr z))) nt, fun z => (guard_fbd.mp z).elim (fbd_step s h n) fun e => by
    subst e
    rw [hD] at h
    cases h⟩
theorem Rep.gstep {L : Addr} (S : StRel K g env hp m σ H) (s : Step m H m' H') (hD : H L = none) {v : V} {d : D} (r : Rep K (Fbd g env σ m) m H v d) : Rep K (Fbd (g.guard L) env σ m') m' H' v d :=
  r.move (fun _ _ h => sqt_step (fun a h => S.at_m h) s h) (fun a vs h n => guard_step s hD h n) fun _ _ h => s.get h
theorem RepL.gstep {L : Addr} (S : StRel K g env hp m σ H) (s : Step m H m' H') (hD : H L = none) {v : List V} {d : List D} (r : RepL K (Fbd g env σ m) m H v d) : RepL K (Fbd (g.guard L) env σ m') m' H' v d :=
  r.move (fun _ _ h => sqt_step (fun a h => S.at_m h) s h) (fun a vs h n => guard_step s hD h n) fun _ _ h => s.get h
/-- a guarded object changes: who reads does not see it -/
theorem Rep.updIn {a : Addr} {o : HO} {xs : List V} (ha : H a = some (.lst xs)) (hf : Fbd g env σ m a) {v : V} {d : D} (r : Rep K (Fbd g env σ m) m H v d) : Rep K (Fbd g env σ m) m (L2.upd H a o) v d := by
  have ht : ∀ b o', H b = some o' → (∀ vs, o' ≠ .lst vs) → b ≠ a := fun b o' e n z => by
    subst z
    rw [ha] at e
    exact n _ (Option.some.inj e).symm
  refine r.move (fun b vs h => ?_) (fun b vs h n => ?_) fun _ _ h => h
  · rcases h with (h | ⟨o', h⟩) | h
    · exact .inl (.inl (by rw [upd_ne (ht b _ h fun _ e => by cases e)]; exact h))
    · exact .inl (.inr ⟨o', by rw [upd_ne (ht b _ h fun _ e => by cases e)]; exact h⟩)
    · exact .inr h
  · have ne : b ≠ a := fun z => n (z ▸ hf)
    exact ⟨by rw [upd_ne ne]; exact h, n⟩
theorem RepL.updIn {a : Addr} {o : HO} {xs : List V} (ha : H a = some (.lst xs)) (hf : Fbd g env σ m a) : ∀ {vs : List V} {ds : List D}, RepL K (Fbd g env σ m) m H vs ds → RepL K (Fbd g env σ m) m (L2.upd H a o) vs ds
  | _, _, .nil => .nil
  | _, _, .cons h r => .cons (h.updIn ha hf) (RepL.updIn ha hf r)
/-! ### walks -/
/-- how far things may move: as a statement does (true), as an expression does, the own lists the same (false) -/
def Mv (b : Bool) (env : Env) (σ : L2.St) (m : List Addr) (H : Hp) (env' : Env) (σ' : L2.St) (m' : List Addr) (H' : Hp) : Prop :=
  if b = true then SStep env σ m H env' σ' m' H' else Step m H m' H' ∧ SameOwn env σ env' σ'
theorem Mv.s {b : Bool} (h : Mv b env σ m H env' σ' m' H') : SStep env σ m H env' σ' m' H' := by
  cases b with
  | true => exact h
  | false => exact SStep.of h.1 h.2
/-- what is walked stands for xs, as long as ok holds -/
structure WalkOk (K : PySem.W.Frag) (b : Bool) (J : It) (xs : List D) (ok : Gh → Env → L2.St → List Addr → Hp → Prop) : Prop where
  go : ∀ g env hp σ m H i, StRel K g env hp m σ H → ok g env σ m H → i < xs.length → J.go i H ∧ ∀ x H', J.yld i H x H' → Ext H H' ∧ ∃ d, xs[i]? = some d ∧ Rep K (Fbd g env σ m) m H' x d
  stop : ∀ g env σ m H, ok g env σ m H → J.stop xs.length H
  keep : ∀ g env hp σ m H env' σ' m' H', StRel K g env hp m σ H → Mv b env σ m H env' σ' m' H' → ok g env σ m H → ok g env' σ' m' H'
  grd : ∀ g env hp σ m H L m' H', StRel K g env hp m σ H → H L = none → Step m H m' H' → ok g env σ m H → ok (g.guard L) env σ m' H'
  grow : ∀ g env σ m H L ys zs, g.Pr L → g.H0 L = none → H L = some (.lst ys) → ok g env σ m H → ok g env σ m (upd H L (.lst zs))
def SrcOk (K : PySem.W.Frag) (g : Gh) (b : Bool) (c : Src) (xs : List D) (env : Env) (σ : L2.St) (m : List Addr) (H : Hp) : Prop :=
  match c with
  | .lst a => ∃ vs, Bor K m H a vs ∧ (b = true → isOwn env σ a → SqL K (fun _ => none) a vs) ∧ RepL K (Fbd g env σ m) m H vs xs ∧ (g.Pr a → g.H0 a = none → SqL K (fun _ => none) a vs)
  | .tup a => ∃ vs, SqT K H a vs ∧ RepL K (Fbd g env σ m) m H vs xs
theorem SrcOk.sq {b : Bool} {c : Src} {xs : List D} (h : SrcOk K g b c xs env σ m H) : ∃ vs, c.sq K H vs ∧ RepL K (Fbd g env σ m) m H vs xs := by
  cases c with
  | lst a =>
    obtain ⟨vs, h1, _, h2, _⟩ := h
    exact ⟨vs, h1.sql, h2⟩
  | tup a =>
    obtain ⟨vs, h1, h2⟩ := h
    exact ⟨vs, h1, h2⟩
theorem SrcOk.keep {b : Bool} {c : Src} {xs : List D} (S : StRel K g env hp m σ H) (s : Mv b env σ m H env' σ' m' H') (h : SrcOk K g b c xs env σ m H) : SrcOk K g b c xs env' σ' m' H' := by
  cases c with
  | tup a =>
    obtain ⟨vs, h1, h2⟩ := h
    exact ⟨vs, sqt_sstep S s.s h1, h2.sstep S s.s⟩
  | lst a =>
    obtain ⟨vs, h1, h2, h3, h4⟩ := h
    cases b with
    | false =>
      obtain ⟨st, so⟩ := s
      exact ⟨vs, h1.step st, fun z => (Bool.noConfusion z), h3.sstep S (SStep.of st so), h4⟩
    | true =>
      have s : SStep env σ m H env' σ' m' H' := s
      have h2 := h2 rfl
      refine ⟨vs, ?_, fun _ z => ?_, h3.sstep S s, h4⟩
      · rcases h1 with ⟨h | ⟨o, h⟩, n⟩ | h
        · by_cases w : isOwn env σ a
          · exact .inr (h2 w)
          · exact .inl ⟨.inl (s.keep a _ h n w).1, s.off h n⟩
        · by_cases w : isOwn env σ a
          · exact .inr (h2 w)
          · exact .inl ⟨.inr ⟨o, (s.keep a _ h n w).1⟩, s.off h n⟩
        · exact .inr h
      · rcases h1 with ⟨h, n⟩ | h
        · by_cases w : isOwn env σ a
          · exact h2 w
          · rcases h with h | ⟨o, h⟩
            · exact absurd z (s.keep a _ h n w).2
            · exact absurd z (s.keep a _ h n w).2
        · exact h
theorem SrcOk.grd {b : Bool} {c : Src} {xs : List D} {L : Addr} (S : StRel K g env hp m σ H) (hD : H L = none) (s : Step m H m' H') (h : SrcOk K g b c xs env σ m H) : SrcOk K (g.guard L) b c xs env σ m' H' := by
  cases c with
  | tup a =>
    obtain ⟨vs, h1, h2⟩ := h
    exact ⟨vs, sqt_step (fun a h => S.at_m h) s h1, h2.gstep S s hD⟩
  | lst a =>
    obtain ⟨vs, h1, h2, h3, h4⟩ := h
    refine ⟨vs, h1.step s, h2, h3.gstep S s hD, fun z z0 => z.elim (fun z => h4 z z0) fun z => ?_⟩
    subst z
    rcases h1 with ⟨h | ⟨o, h⟩, _⟩ | h
    · rw [hD] at h
      cases h
    · rw [hD] at h
      cases h
    · exact h
theorem SrcOk.grow {b : Bool} {c : Src} {xs : List D} {L : Addr} {ys zs : List V} (hL : g.Pr L) (h0 : g.H0 L = none) (hv : H L = some (.lst ys)) (h : SrcOk K g b c xs env σ m H) : SrcOk K g b c xs env σ m (upd H L (.lst zs)) := by
  have hf : Fbd g env σ m L := .inl hL
  cases c with
  | tup a =>
    obtain ⟨vs, h1, h2⟩ := h
    refine ⟨vs, ?_, h2.updIn hv hf⟩
    have ne : ∀ {o : HO}, H a = some o → (∀ vs, o ≠ .lst vs) → a ≠ L := fun {o} e n z => by
      subst z
      rw [hv] at e
      exact n _ (Option.some.inj e).symm
    rcases h1 with (h | ⟨o, h⟩) | h
    · exact .inl (.inl (by rw [upd_ne (ne h fun _ e => by cases e)]; exact h))
    · exact .inl (.inr ⟨o, by rw [upd_ne (ne h fun _ e => by cases e)]; exact h⟩)
    · exact .inr h
  | lst a =>
    obtain ⟨vs, h1, h2, h3, h4⟩ := h
    refine ⟨vs, ?_, h2, h3.updIn hv hf, h4⟩
    by_cases e : a = L
    · exact .inr (h4 (e ▸ hL) (e ▸ h0))
    · rcases h1 with ⟨h | ⟨o', h⟩, n⟩ | h
      · exact .inl ⟨.inl (by rw [upd_ne e]; exact h), n⟩
      · exact .inl ⟨.inr ⟨o', by rw [upd_ne e]; exact h⟩, n⟩
      · exact .inr h
/-- the ways of walking -/
def Src.J (K : PySem.W.Frag) : Src → It
  | .lst a => Itl K a
  | .tup a => Itt K a
theorem walk_src (b : Bool) (c : Src) (xs : List D) : WalkOk K b (c.J K) xs (fun g => SrcOk K g b c xs) := by
  refine ⟨fun g env hp σ m H i S h hi => ?_, fun g env σ m H h => ?_, fun g env hp σ m H env' σ' m' H' S s h => h.keep S s, fun g env hp σ m H L m' H' S hD s h => h.grd S hD s, fun g env σ m H L ys zs hL h0 hv h => h.grow hL h0 hv⟩
  · obtain ⟨vs, h1, h2⟩ := h.sq
    obtain ⟨v, hv, rv⟩ := h2.get (List.getElem?_eq_getElem hi)
    cases c with
    | lst a =>
      refine ⟨⟨vs, v, h1, hv⟩, fun x H' y => ?_⟩
      obtain ⟨e, y⟩ := y
      have y := y vs h1
      rw [hv] at y
      cases y
      subst e
      exact ⟨Evl.Ex.refl _, _, List.getElem?_eq_getElem hi, rv⟩
    | tup a =>
      refine ⟨⟨vs, v, h1, hv⟩, fun x H' y => ?_⟩
      obtain ⟨e, y⟩ := y
      have y := y vs h1
      rw [hv] at y
      cases y
      subst e
      exact ⟨Evl.Ex.refl _, _, List.getElem?_eq_getElem hi, rv⟩
  · obtain ⟨vs, h1, h2⟩ := h.sq
    have := h2.length
    cases c with
    | lst a => exact ⟨vs, h1, by omega⟩
    | tup a => exact ⟨vs, h1, by omega⟩
theorem walk_text (b : Bool) (z : Str) : WalkOk K b (Its z) (strD z) (fun _ _ _ _ _ => True) := by
  have hl : (strD z).length = z.cps.size := by simp [strD]
  refine ⟨fun g env hp σ m H i S h hi => ⟨by (first | show i < z.cps.size | show i < n); rw [← hl]; exact hi, fun x H' y => ?_⟩, fun g env σ m H h => ?_, fun _ _ _ _ _ _ _ _ _ _ _ _ _ => trivial, fun _ _ _ _ _ _ _ _ _ _ _ _ _ => trivial, fun _ _ _ _ _ _ _ _ _ _ _ _ => trivial⟩
  · obtain ⟨e, c, hc, rfl⟩ := y
    subst e
    refine ⟨Evl.Ex.refl _, .str ⟨#[c]⟩, ?_, .str _⟩
    unfold strD
    rw [List.getElem?_map, Array.getElem?_toList, hc]
    rfl
  · show z.cps.size ≤ _
    rw [hl]
    exact Nat.le_refl _
theorem walk_rangeC (b : Bool) (lo c : Int) (n : Nat) : WalkOk K b (Itc lo c n) (rangeD lo c n) (fun _ _ _ _ _ => True) := by
  have hl : (rangeD lo c n).length = n := by simp [rangeD]
  refine ⟨fun g env hp σ m H i S h hi => ⟨by (first | show i < z.cps.size | show i < n); rw [← hl]; exact hi, fun x H' y => ?_⟩, fun g env σ m H h => ?_, fun _ _ _ _ _ _ _ _ _ _ _ _ _ => trivial, fun _ _ _ _ _ _ _ _ _ _ _ _ _ => trivial, fun _ _ _ _ _ _ _ _ _ _ _ _ => trivial⟩
  · obtain ⟨e, rfl⟩ := y
    subst e
    refine ⟨Evl.Ex.refl _, .int (lo + (i : Int) * c), ?_, .int _⟩
    unfold rangeD
    rw [hl] at hi
    rw [List.getElem?_map, List.getElem?_range hi]
    rfl
  · show n ≤ _
    rw [hl]
    exact Nat.le_refl _
theorem walk_range (b : Bool) (lo : Int) (n : Nat) : WalkOk K b (Itr lo n) (rangeD lo 1 n) (fun _ _ _ _ _ => True) := by
  have hl : (rangeD lo 1 n).length = n := by simp [rangeD]
  refine ⟨fun g env hp σ m H i S h hi => ⟨by (first | show i < z.cps.size | show i < n); rw [← hl]; exact hi, fun x H' y => ?_⟩, fun g env σ m H h => ?_, fun _ _ _ _ _ _ _ _ _ _ _ _ _ => trivial, fun _ _ _ _ _ _ _ _ _ _ _ _ _ => trivial, fun _ _ _ _ _ _ _ _ _ _ _ _ => trivial⟩
  · obtain ⟨e, rfl⟩ := y
    subst e
    refine ⟨Evl.Ex.refl _, .int (lo + (i : Int) * 1), ?_, ?_⟩
    · unfold rangeD
      rw [hl] at hi
      rw [List.getElem?_map, List.getElem?_range hi]
      rfl
    · rw [Int.mul_one]
      exact .int _
  · show n ≤ _
    rw [hl]
    exact Nat.le_refl _
theorem enumD_get : ∀ (xs : List D) (k i : Nat), (enumD k xs)[i]? = (xs[i]?).map fun x => D.tup [.int ((k + i : Nat) : Int), x]
  | [], _, _ => by simp [enumD]
  | x :: xs, k, 0 => by simp [enumD]
  | x :: xs, k, i + 1 => by
    rw [enumD, List.getElem?_cons_succ, List.getElem?_cons_succ, enumD_get xs (k + 1) i]
    have : k + 1 + i = k + (i + 1) := by omega
    rw [this]
theorem enumD_len : ∀ (xs : List D) (k : Nat), (enumD k xs).length = xs.length
  | [], _ => rfl
  | x :: xs, k => by rw [enumD, List.length_cons, List.length_cons, enumD_len xs]
theorem walk_enum (b : Bool) (c : Src) (xs : List D) : WalkOk K b (It1 K c) (enumD 0 xs) (fun g => SrcOk K g b c xs) := by
  refine ⟨fun g env hp σ m H i S h hi => ?_, fun g env σ m H h => ?_, fun g env hp σ m H env' σ' m' H' S s h => h.keep S s, fun g env hp σ m H L m' H' S hD s h => h.grd S hD s, fun g env σ m H L ys zs hL h0 hv h => h.grow hL h0 hv⟩
  · rw [enumD_len] at hi
    obtain ⟨vs, h1, h2⟩ := h.sq
    obtain ⟨v, hv, rv⟩ := h2.get (List.getElem?_eq_getElem hi)
    refine ⟨⟨vs, v, h1, hv⟩, fun x H' y => ?_⟩
    obtain ⟨T, y1, ⟨rfl, hT, rfl⟩, y2⟩ := y
    have y2 := y2 vs h1
    rw [hv] at y2
    cases y2
    refine ⟨Evl.Ex.new hT, _, by rw [enumD_get, List.getElem?_eq_getElem hi]; rfl, ?_⟩
    refine rep_new_tup hT (.cons ?_ (.cons rv .nil))
    rw [Nat.zero_add]
    exact .int _
  · obtain ⟨vs, h1, h2⟩ := h.sq
    exact ⟨vs, h1, by rw [enumD_len, h2.length]⟩
theorem walk_zip (b : Bool) (c d : Src) (xs ys : List D) : WalkOk K b (It2 K c d) (zipD xs ys) (fun g env σ m H => SrcOk K g b c xs env σ m H ∧ SrcOk K g b d ys env σ m H) := by
  refine ⟨fun g env hp σ m H i S h hi => ?_, fun g env σ m H h => ?_, fun g env hp σ m H env' σ' m' H' S s h => ⟨h.1.keep S s, h.2.keep S s⟩, fun g env hp σ m H L m' H' S hD s h => ⟨h.1.grd S hD s, h.2.grd S hD s⟩, fun g env σ m H L ys zs hL h0 hv h => ⟨h.1.grow hL h0 hv, h.2.grow hL h0 hv⟩⟩
  · unfold zipD at hi
    rw [List.length_zipWith] at hi
    obtain ⟨vs, h1, h2⟩ := h.1.sq
    obtain ⟨ws, k1, k2⟩ := h.2.sq
    have hi1 : i < xs.length := by omega
    have hi2 : i < ys.length := by omega
    obtain ⟨v, hv, rv⟩ := h2.get (List.getElem?_eq_getElem hi1)
    obtain ⟨u, hu, ru⟩ := k2.get (List.getElem?_eq_getElem hi2)
    refine ⟨⟨vs, ws, v, u, h1, k1, hv, hu⟩, fun x H' y => ?_⟩
    obtain ⟨T, y1, y2, ⟨rfl, hT, rfl⟩, y3, y4⟩ := y
    have y3 := y3 vs h1
    have y4 := y4 ws k1
    rw [hv] at y3
    rw [hu] at y4
    cases y3
    cases y4
    refine ⟨Evl.Ex.new hT, _, ?_, rep_new_tup hT (.cons rv (.cons ru .nil))⟩
    unfold zipD
    rw [List.getElem?_zipWith, List.getElem?_eq_getElem hi1, List.getElem?_eq_getElem hi2]
  · obtain ⟨vs, h1, h2⟩ := h.1.sq
    obtain ⟨ws, k1, k2⟩ := h.2.sq
    refine ⟨vs, ws, h1, k1, ?_⟩
    unfold zipD
    rw [List.length_zipWith, h2.length, k2.length]
/-- what is seen may be walked -/
def NoOwn (K : PySem.W.Frag) (g : Gh) (b : Bool) (env : Env) (σ : L2.St) (m : List Addr) (H : Hp) (v : V) (d : D) : Prop :=
  ∀ a ds, v = .ref a → d = .lst ds → (b = true ∧ isOwn env σ a) ∨ (g.Pr a ∧ g.H0 a = none) → ∃ vs, SqL K (fun _ => none) a vs ∧ RepL K (Fbd g env σ m) m H vs ds
theorem NoOwn.of_rep {b : Bool} {v : V} {d : D} (r : Rep K (Fbd g env σ m) m H v d) : NoOwn K g b env σ m H v d := fun a ds e1 e2 ho => by
  subst e1 e2
  cases r with
  | lst h n r => exact absurd (ho.elim (fun z => .inr (.inl z.2)) fun z => .inl z.1) n
theorem NoOwn.move {b : Bool} {v : V} {d : D} (S : StRel K g env hp m σ H) (st : Step m H m' H') (h : NoOwn K g b env σ m H v d) : NoOwn K g b env σ m' H' v d := fun a ds e1 e2 ho => by
  obtain ⟨vs, h1, h2⟩ := h a ds e1 e2 ho
  exact ⟨vs, h1, h2.step (fun a h => S.at_m h) st⟩
theorem walk_of_rep {b : Bool} {v : V} {d : D} {xs : List D} (r : RepW K (Fbd g env σ m) m H v d) (h : walk? d = some xs) (hno : NoOwn K g b env σ m H v d) :
    (∃ c : Src, v = .ref c.at ∧ SrcOk K g b c xs env σ m H) ∨ ∃ z, v = .str z ∧ xs = strD z ∧ z.cps.size ≤ LIM := by
  cases d with
  | lst ds =>
    obtain rfl := Option.some.inj h
    cases r with
    | of r =>
      cases r with
      | @lst a vs _ h1 n r => exact .inl ⟨.lst a, rfl, vs, .inl ⟨.inl h1, fun z => n (.inr (.inr z))⟩, fun _ z => absurd (.inr (.inl z)) n, r, fun z => absurd (.inl z) n⟩
    | @lst a vs _ h1 r =>
      by_cases ho : (b = true ∧ isOwn env σ a) ∨ (g.Pr a ∧ g.H0 a = none)
      · obtain ⟨ws, w1, w2⟩ := hno a ds rfl rfl ho
        exact .inl ⟨.lst a, rfl, ws, .inr w1, fun _ _ => w1, w2, fun _ _ => w1⟩
      · exact .inl ⟨.lst a, rfl, vs, h1, fun hb z => absurd (.inl ⟨hb, z⟩) ho, r, fun z z0 => absurd (.inr ⟨z, z0⟩) ho⟩
  | tup ds =>
    obtain rfl := Option.some.inj h
    obtain ⟨a, vs, rfl, h1, h2⟩ := r.v.tup_inv
    exact .inl ⟨.tup a, rfl, vs, h1, h2⟩
  | str z =>
    simp only [walk?, Option.ite_none_right_eq_some, Option.some.injEq] at h
    obtain ⟨hl, rfl⟩ := h
    obtain rfl := r.v.str_inv
    exact .inr ⟨z, rfl, rfl, hl⟩
  | _ => cases h
end
end Ev
end

section
set_option Elab.async false
set_option linter.all false
set_option maxRecDepth 100000
namespace Ev
open PySem L2 PyProof.Rows
variable [TabList]
variable (K : PySem.W.Frag) (Γ : Nat → List D → Heap → R D) (g : Gh)
/-- seen, and (true) no own list of this body -/
def tW (b : Bool) (c : E) : TE := fun σ H Q => ∃ env hp m, StRel K g env hp m σ H ∧ ∃ d hp', evE reprL Γ c env hp = some (.ok d hp') ∧
  ∀ v H' m', StRel K g env hp' m' σ H' → Step m H m' H' → RepW K (Fbd g env σ m') m' H' v d → NoOwn K g b env σ m' H' v d → Q v H'
def tI (b : Bool) (c : E) : TI := fun σ H R => ∃ env hp m, StRel K g env hp m σ H ∧ ∃ s hp' xs, evE reprL Γ c env hp = some (.ok s hp') ∧ walk? s = some xs ∧
  ∀ J ok H' m', StRel K g env hp' m' σ H' → Step m H m' H' → WalkOk K b J xs ok → ok g env σ m' H' → xs.length ≤ LIM → R J H'
variable {K Γ g}
section
variable {X : Cx}
theorem w_gen {b : Bool} {e : Expr} {c : E} (h : PE X e (tE X.K Γ g c)) : PE X e (tW X.K Γ g b c) :=
  peWeak h fun σ H Q ⟨env, hp, m, S, d, hp', ev, q⟩ => ⟨env, hp, m, S, d, hp', ev, fun v H' m' S' st r => q v H' m' S' st (.of r) (NoOwn.of_rep r)⟩
theorem w_view {i : Nat} {x : Str} {pos : Pos} (hN : X.N[i]? = some x) (hv : Vis X.env.scope x) (hd : (x == ("__debug__" : Str)) = false) (hcd : (x == ("__classdict__" : Str)) = false) : PE X (.Name x pos) (tW X.K Γ g false (.view i)) :=
  peWeak (pe_var hN hv hd hcd) fun σ H Q ⟨env, hp, m, S, d, hp', ev, q⟩ => by
    obtain ⟨e1, rfl⟩ := lift_ok (show lift hp (Sl.see env[i]?) = _ from ev)
    cases hx : env[i]? with
    | none =>
      rw [hx] at e1
      cases e1
    | some x =>
      rw [hx] at e1
      cases x with
      | none => cases e1
      | own d' =>
        obtain rfl := Option.some.inj (show some d' = some d from e1)
        obtain ⟨a, vs, ds, h1, rfl, h3, h4, h5, h6, h7⟩ := S.slots i _ hx
        exact ⟨.ref a, h1, q _ H m S Step.refl (.lst (.inl ⟨.inl h3, h6⟩) h4) fun a' ds' e1 e2 ho => by
          cases e1
          exact ho.elim (fun z => Bool.noConfusion z.1) fun z => absurd z.1 h7⟩
      | val d' =>
        obtain rfl := Option.some.inj (show some d' = some d from e1)
        obtain ⟨v, h1, h2⟩ := S.slots i _ hx
        exact ⟨v, h1, q v H m S Step.refl (.of h2) (NoOwn.of_rep h2)⟩
      | bor d' =>
        obtain rfl := Option.some.inj (show some d' = some d from e1)
        obtain ⟨a, vs, ds, h1, rfl, h3, h4, h5⟩ := S.slots i _ hx
        exact ⟨.ref a, h1, q _ H m S Step.refl (.lst h3 h4) fun a' ds' e1 e2 ho => by
          cases e1
          cases e2
          exact ⟨vs, h5 (ho.elim (fun z => Bool.noConfusion z.1) fun z => z.2), h4⟩⟩
theorem v_of_w {b : Bool} {e : Expr} {c : E} (h : PE X e (tW X.K Γ g b c)) : PE X e (tV X.K Γ g c) :=
  peWeak h fun σ H Q ⟨env, hp, m, S, d, hp', ev, q⟩ => ⟨env, hp, m, S, d, hp', ev, fun v H' m' S' st r _ => q v H' m' S' st r⟩
theorem w_peek {b : Bool} {i : Nat} {x : Str} {pos : Pos} (hN : X.N[i]? = some x) (hv : Vis X.env.scope x) (hd : (x == ("__debug__" : Str)) = false) (hcd : (x == ("__classdict__" : Str)) = false) : PE X (.Name x pos) (tW X.K Γ g b (.peek i)) :=
  peWeak (pe_var hN hv hd hcd) fun σ H Q ⟨env, hp, m, S, d, hp', ev, q⟩ => by
    obtain ⟨e1, rfl⟩ := lift_ok (show lift hp (Sl.peek env[i]?) = _ from ev)
    cases hx : env[i]? with
    | none =>
      rw [hx] at e1
      cases e1
    | some x =>
      rw [hx] at e1
      cases x with
      | none => cases e1
      | own d' => cases e1
      | val d' =>
        obtain rfl := Option.some.inj (show some d' = some d from e1)
        obtain ⟨v, h1, h2⟩ := S.slots i _ hx
        exact ⟨v, h1, q v H m S Step.refl (.of h2) (NoOwn.of_rep h2)⟩
      | bor d' =>
        obtain rfl := Option.some.inj (show some d' = some d from e1)
        obtain ⟨a, vs, ds, h1, rfl, h3, h4, h5⟩ := S.slots i _ hx
        exact ⟨.ref a, h1, q _ H m S Step.refl (.lst h3 h4) fun a' ds' e1 e2 ho => by
          cases e1
          cases e2
          exact ⟨vs, h5 (ho.elim (fun z => S.own_new z.2) fun z => z.2), h4⟩⟩
/-! ### walks -/
theorem i_any {b : Bool} {tg e : Expr} {c : E} (h : PE X e (tW X.K Γ g b c)) : PI X tg e (tI X.K Γ g b c) := by
  refine ⟨fun pins s σ H RR I q => (pi_any h).run pins s σ H RR I ?_⟩
  obtain ⟨env, hp, m, S, d, hp', xs, ev, hx, q⟩ := q
  refine ⟨env, hp, m, S, d, hp', ev, fun v H' m' S' st r no => ?_⟩
  rcases walk_of_rep r hx no with ⟨c', rfl, ok⟩ | ⟨z, rfl, rfl, hz⟩
  · obtain ⟨vs, hs, hrl⟩ := ok.sq
    cases c' with
    | lst a => exact .inl ⟨a, vs, rfl, hs, fun hz => q _ _ H' m' S' st (walk_src b (.lst a) xs) ok (by rw [LIM_eq, ← hrl.length]; exact hz)⟩
    | tup a => exact .inr (.inl ⟨a, vs, rfl, hs, fun hz => q _ _ H' m' S' st (walk_src b (.tup a) xs) ok (by rw [LIM_eq, ← hrl.length]; exact hz)⟩)
  · exact .inr (.inr ⟨z, rfl, q _ _ H' m' S' st (walk_text b z) trivial (by rw [strD, List.length_map]; exact hz)⟩)
theorem evE_op1 {o : Op1} {a : E} {env : Env} {hp hp' : Heap} {d : D} (ev : evE reprL Γ (.op1 o a) env hp = some (.ok d hp')) : ∃ x x', evE reprL Γ a env hp = some (.ok x hp') ∧ deref hp' x = some x' ∧ o1 reprL o x' = some d := by
  obtain ⟨x, h1, e1, ev⟩ := bind_some (show R.bind (evE reprL Γ a env hp) _ = _ from ev)
  obtain ⟨e3, z⟩ := lift_ok ev
  subst z
  obtain ⟨x', d1, e3⟩ := Option.bind_eq_some_iff.mp e3
  exact ⟨x, x', e1, d1, e3⟩
theorem rangeD_len (a c : Int) (n : Nat) : (rangeD a c n).length = n := by simp [rangeD]
theorem small62_iff {a : Int} (h : small62 a = true) : -(2 ^ 62) ≤ a ∧ a < 2 ^ 62 := by
  unfold small62 at h
  simpa using h
theorem i_range1 {b : Bool} {tg a : Expr} {c : E} {p pos : Pos} (hg : Gl X "range") (hm : X.mg "range" = none) (h : PE X a (tV X.K Γ g c)) (ns : notStar a = true) : PI X tg (.Call (.Name "range" p) [a] [] pos) (tI X.K Γ g b (.op1 .range c)) := by
  refine ⟨fun pins s σ H RR I q => (pi_range1 hg hm (pa_cons h pa_nil (star_cons ns [] X.env)) (star_cons ns [] X.env)).run pins s σ H RR I ?_⟩
  obtain ⟨env, hp, m, S, d, hp', xs, ev, hx, q⟩ := q
  obtain ⟨y, y', e1, d1, ho⟩ := evE_op1 ev
  cases y' <;> simp only [o1, reduceCtorEq, Option.ite_none_right_eq_some, Option.some.injEq, Bool.and_eq_true, decide_eq_true_eq] at ho
  rename_i n
  obtain ⟨⟨hs, hl⟩, rfl⟩ := ho
  obtain rfl := Option.some.inj hx
  obtain rfl := deref_int d1
  obtain ⟨s1, s2⟩ := small62_iff hs
  refine ⟨env, hp, m, S, _, hp', e1, fun v H1 m1 S1 st1 r1 => ?_⟩
  obtain rfl := r1.v.int_inv
  exact ⟨n, rfl, s1, s2, q _ _ H1 m1 S1 st1 (walk_range b 0 n.toNat) trivial (by rw [rangeD_len]; show n.toNat ≤ 16777216; have : (LIM : Int) = 16777216 := rfl; omega)⟩
theorem i_range2 {b : Bool} {tg a a2 : Expr} {c c2 : E} {p pos : Pos} (hg : Gl X "range") (hm : X.mg "range" = none) (h : PE X a (tV X.K Γ g c)) (h2 : PE X a2 (tV X.K Γ g c2)) (ns : notStar a = true) (ns2 : notStar a2 = true) :
    PI X tg (.Call (.Name "range" p) [a, a2] [] pos) (tI X.K Γ g b (.op2 .range c c2)) := by
  refine ⟨fun pins s σ H RR I q => (pi_range2 hg hm (pa_cons h (pa_cons h2 pa_nil (star_cons ns2 [] X.env)) (star_cons ns [a2] X.env)) (by rw [star_cons ns, star_cons ns2]; rfl) (star_cons ns2 [] X.env)).run pins s σ H RR I ?_⟩
  obtain ⟨env, hp, m, S, d, hp', xs, ev, hx, q⟩ := q
  obtain ⟨u, h1, w, u', w', e1, e2, d1, d2, ho⟩ := evE_op2 ev
  have hw : ∃ i j, u' = .int i ∧ w' = .int j ∧ small62 i = true ∧ small62 j = true ∧ (j - i).toNat ≤ LIM ∧ d = .lst (rangeD i 1 (j - i).toNat) := by
    cases u' <;> cases w' <;> simp only [o2, reduceCtorEq, Option.ite_none_right_eq_some, Option.some.injEq, Bool.and_eq_true, decide_eq_true_eq] at ho
    exact ⟨_, _, rfl, rfl, ho.1.1.1, ho.1.1.2, ho.1.2, ho.2.symm⟩
  obtain ⟨i, j, rfl, rfl, hi, hj, hlen, rfl⟩ := hw
  obtain rfl := Option.some.inj hx
  obtain rfl := deref_int d1
  obtain rfl := deref_int d2
  obtain ⟨s1, s2⟩ := small62_iff hi
  obtain ⟨s3, s4⟩ := small62_iff hj
  refine ⟨env, hp, m, S, _, h1, e1, fun v H1 m1 S1 st1 r1 => ⟨env, h1, m1, S1, _, hp', e2, fun v2 H2 m2 S2 st2 r2 => ?_⟩⟩
  obtain rfl := r1.v.int_inv
  obtain rfl := r2.v.int_inv
  exact ⟨i, j, rfl, ⟨s1, s2, s3, s4⟩, q _ _ H2 m2 S2 (st1.trans st2) (walk_range b i (j - i).toNat) trivial (by rw [rangeD_len]; exact hlen)⟩
theorem rgC_of {a b c : Int} (ha : small62 a = true) (hb : small62 b = true) (h0 : c ≠ 0) (hc : c.natAbs < 2 ^ 30) : RgC a b c (turns a b c) := by
  obtain ⟨a1, a2⟩ := small62_iff ha
  obtain ⟨b1, b2⟩ := small62_iff hb
  have hc' : c.natAbs < 1073741824 := hc
  have e63 : (2 : Int) ^ 63 = 9223372036854775808 := by decide
  have e62 : (2 : Int) ^ 62 = 4611686018427387904 := by decide
  rw [e62] at a1 a2 b1 b2
  have size : 0 ≤ Builtin.Range.rangeSize a b c ∧ Builtin.Range.rangeSize a b c < 9223372036854775808 ∧ Builtin.Range.rangeSize a b c = turns a b c := by
    unfold turns Builtin.Range.rangeSize
    by_cases hp : 0 < c
    · rw [if_pos (show c > 0 from hp), if_pos hp]
      split
      · have h1 : 0 ≤ (b - a - 1) / c := Int.ediv_nonneg (by omega) (by omega)
        have h2 : (b - a - 1) / c ≤ b - a - 1 := Int.ediv_le_self _ (by omega)
        omega
      · decide
    · rw [if_neg (show ¬ c > 0 from hp), if_neg hp]
      by_cases hq : b < a
      · rw [if_pos (show a > b from hq), if_pos hq]
        have h1 : 0 ≤ (a - b - 1) / (-c) := Int.ediv_nonneg (by omega) (by omega)
        have h2 : (a - b - 1) / (-c) ≤ a - b - 1 := Int.ediv_le_self _ (by omega)
        omega
      · rw [if_neg (show ¬ a > b from hq), if_neg hq]
        decide
  refine ⟨h0, hc', ?_, size.2.2⟩
  unfold Builtin.Range.small
  simp only [Builtin.Range.rangeFitsLong, Bool.and_eq_true, Bool.or_eq_true, decide_eq_true_eq, beq_iff_eq]
  rw [e63]
  refine ⟨⟨⟨⟨by omega, by omega⟩, by omega⟩, by omega⟩, .inr ?_⟩
  split
  · simp only [andI, decI]
    omega
  · simp only [andI, decI]
    omega
theorem i_range3 {b : Bool} {tg a a2 a3 : Expr} {c c2 c3 : E} {p pos : Pos} (hg : Gl X "range") (hm : X.mg "range" = none) (h : PE X a (tV X.K Γ g c)) (h2 : PE X a2 (tV X.K Γ g c2)) (h3 : PE X a3 (tV X.K Γ g c3))
    (ns : notStar a = true) (ns2 : notStar a2 = true) (ns3 : notStar a3 = true) : PI X tg (.Call (.Name "range" p) [a, a2, a3] [] pos) (tI X.K Γ g b (.op3 .range c c2 c3)) := by
  refine ⟨fun pins s σ H RR I q => (pi_range3 hg hm (pa_cons h (pa_cons h2 (pa_cons h3 pa_nil (star_cons ns3 [] X.env)) (star_cons ns2 [a3] X.env)) (star_cons ns [a2, a3] X.env)) (star_cons ns [a2, a3] X.env)
    (by rw [star_cons ns2, star_cons ns3]; rfl)).run pins s σ H RR I ?_⟩
  obtain ⟨env, hp, m, S, d, hp', xs, ev, hx, q⟩ := q
  obtain ⟨u, h1, e1, ev⟩ := bind_some (show R.bind (evE reprL Γ c env hp) _ = _ from ev)
  obtain ⟨w, h2', e2, ev⟩ := bind_some ev
  obtain ⟨y, h3', e3, ev⟩ := bind_some ev
  obtain ⟨ev, hz⟩ := lift_ok ev
  subst hz
  obtain ⟨u', d1, ho⟩ := Option.bind_eq_some_iff.mp ev
  have hw : ∃ i j k, u' = .int i ∧ w = .int j ∧ y = .int k ∧ small62 i = true ∧ small62 j = true ∧ k ≠ 0 ∧ k.natAbs < 2 ^ 30 ∧ turns i j k ≤ LIM ∧ d = .lst (rangeD i k (turns i j k)) := by
    cases u' <;> cases w <;> cases y <;> simp only [o3, slD, reduceCtorEq, Option.ite_none_right_eq_some, Option.some.injEq, Bool.and_eq_true, decide_eq_true_eq] at ho
    exact ⟨_, _, _, rfl, rfl, rfl, ho.1.1.1.1.1, ho.1.1.1.1.2, ho.1.1.1.2, ho.1.1.2, ho.1.2, ho.2.symm⟩
  obtain ⟨i, j, k, rfl, rfl, rfl, hi, hj, hk0, hk, hlen, rfl⟩ := hw
  obtain rfl := Option.some.inj hx
  obtain rfl := deref_int d1
  refine ⟨env, hp, m, S, _, h1, e1, fun v H1 m1 S1 st1 r1 => ⟨env, h1, m1, S1, _, h2', e2, fun v2 H2 m2 S2 st2 r2 => ⟨env, h2', m2, S2, _, _, e3, fun v3 H3 m3 S3 st3 r3 => ?_⟩⟩⟩
  obtain rfl := r1.v.int_inv
  obtain rfl := r2.v.int_inv
  obtain rfl := r3.v.int_inv
  exact ⟨i, j, k, _, rfl, rgC_of hi hj hk0 hk, q _ _ H3 m3 S3 ((st1.trans st2).trans st3) (walk_rangeC b i k _) trivial (by rw [rangeD_len]; exact hlen)⟩
theorem items_src {b : Bool} {v : V} {d : D} {xs : List D} {env : Env} {σ : L2.St} {m : List Addr} {H : Hp} {ctx : PySem.W.Frag} (r : RepW ctx (Fbd g env σ m) m H v d) (h : items? d = some xs) (hno : NoOwn ctx g b env σ m H v d) :
    ∃ c : Src, v = .ref c.at ∧ SrcOk ctx g b c xs env σ m H := by
  have hw : walk? d = some xs := by cases d <;> first | exact h | cases h
  rcases walk_of_rep r hw hno with z | ⟨z, rfl, _, _⟩
  · exact z
  · have := r.v
    cases d with
    | str y => cases h
    | lst ds =>
      obtain ⟨a, _, e, _⟩ := this.lst_inv
      cases e
    | tup ds =>
      obtain ⟨a, _, e, _⟩ := this.tup_inv
      cases e
    | _ => cases h
theorem deref_items {h : Heap} {x x' : D} {xs : List D} (e : deref h x = some x') (hi : items? x' = some xs) (hr : ∀ k, x ≠ .ref k) : x = x' := by
  cases x with
  | ref k => exact absurd rfl (hr k)
  | _ => exact Option.some.inj e
theorem i_enum {b : Bool} {a : Expr} {c : E} {elts : List Expr} {kk : Nat} {tpos p pos : Pos} (hg : Gl X "enumerate") (hm : X.mg "enumerate" = none) (h : PE X a (tW X.K Γ g b c)) (ns : notStar a = true) :
    PI X (.Tuple elts kk tpos) (.Call (.Name "enumerate" p) [a] [] pos) (tI X.K Γ g b (.enm c)) := by
  refine ⟨fun pins s σ H RR I q => (pi_enum1 hg hm (pa_cons h pa_nil (star_cons ns [] X.env)) (star_cons ns [] X.env)).run pins s σ H RR I ?_⟩
  obtain ⟨env, hp, m, S, d, hp', xs, ev, hx, q⟩ := q
  obtain ⟨u, h1, e1, ev⟩ := bind_some (show R.bind (evE reprL Γ c env hp) _ = _ from ev)
  obtain ⟨e3, z⟩ := lift_ok ev
  subst z
  obtain ⟨ys, hi, rfl⟩ := Option.map_eq_some_iff.mp e3
  obtain rfl := Option.some.inj hx
  refine ⟨env, hp, m, S, u, _, e1, fun v H1 m1 S1 st1 r1 no => ?_⟩
  obtain ⟨c', rfl, ok⟩ := items_src r1 hi no
  obtain ⟨vs, hs, hrl⟩ := ok.sq
  exact ⟨c', vs, rfl, hs, fun hz => q _ _ H1 m1 S1 st1 (walk_enum b c' ys) ok (by rw [enumD_len, LIM_eq, ← hrl.length]; exact hz)⟩
theorem i_zip {b : Bool} {a a2 : Expr} {c c2 : E} {elts : List Expr} {kk : Nat} {tpos p pos : Pos} (hg : Gl X "zip") (hm : X.mg "zip" = none) (h : PE X a (tW X.K Γ g b c)) (h2 : PE X a2 (tW X.K Γ g b c2)) (ns : notStar a = true) (ns2 : notStar a2 = true) :
    PI X (.Tuple elts kk tpos) (.Call (.Name "zip" p) [a, a2] [] pos) (tI X.K Γ g b (.zip c c2)) := by
  refine ⟨fun pins s σ H RR I q => (pi_zip2 hg hm (pa_cons h (pa_cons h2 pa_nil (star_cons ns2 [] X.env)) (star_cons ns [a2] X.env)) (star_cons ns [a2] X.env) (by rw [star_cons ns2]; rfl)).run pins s σ H RR I ?_⟩
  obtain ⟨env, hp, m, S, d, hp', xs, ev, hx, q⟩ := q
  obtain ⟨u, h1, e1, ev⟩ := bind_some (show R.bind (evE reprL Γ c env hp) _ = _ from ev)
  obtain ⟨w, h2', e2, ev⟩ := bind_some ev
  obtain ⟨e3, z⟩ := lift_ok ev
  subst z
  obtain ⟨ys, hy, e3⟩ := Option.bind_eq_some_iff.mp e3
  obtain ⟨zs, hz, e3⟩ := Option.bind_eq_some_iff.mp e3
  obtain rfl := Option.some.inj e3
  obtain rfl := Option.some.inj hx
  refine ⟨env, hp, m, S, u, h1, e1, fun v H1 m1 S1 st1 r1 no1 => ⟨env, h1, m1, S1, w, _, e2, fun v2 H2 m2 S2 st2 r2 no2 => ?_⟩⟩
  obtain ⟨a', rfl, ok1⟩ := items_src (r1.step (fun a h => S1.at_m h) st2) hy (no1.move S1 st2)
  obtain ⟨b', rfl, ok2⟩ := items_src r2 hz no2
  obtain ⟨vs, hs, hrl⟩ := ok1.sq
  obtain ⟨ws, ks, _⟩ := ok2.sq
  exact ⟨a', b', vs, ws, rfl, hs, ks, fun hz => q _ _ H2 m2 S2 (st1.trans st2) (walk_zip b a' b' ys zs) ⟨ok1, ok2⟩ (by unfold zipD; rw [List.length_zipWith, LIM_eq]; have := hrl.length; omega)⟩
end
end Ev
end

section
set_option Elab.async false
set_option linter.all false
set_option maxRecDepth 100000
namespace Ev
open PySem L2 PyProof.Rows
variable [TabList]
/-! ### targets -/
section
variable {K : PySem.W.Frag} {g : Gh} {env env' : Env} {hp hp' : Heap} {m m' : List Addr} {σ σ' : L2.St} {H H' : Hp}
def gT (K : PySem.W.Frag) (t : Tg) : TG := fun v σ H Q => ∃ (g : Gh) (env : Env) (hp : Heap) (m : List Addr) (d : D) (env' : Env), StRel K g env hp m σ H ∧ Rep K (Fbd g env σ m) m H v d ∧ setTg t d env = some env' ∧
  ∀ σ', StRel K g env' hp m σ' H → SameOwn env σ env' σ' → (∀ i, i ∉ t.slots → σ'[i]? = σ[i]?) → σ'.length = σ.length → Q σ' H
def gTs (K : PySem.W.Frag) (ts : List Tg) : TGs := fun vs σ H Q => ∃ (g : Gh) (env : Env) (hp : Heap) (m : List Addr) (ds : List D) (env' : Env), StRel K g env hp m σ H ∧ RepL K (Fbd g env σ m) m H vs ds ∧ setTgs ts ds env = some env' ∧
  ∀ σ', StRel K g env' hp m σ' H → SameOwn env σ env' σ' → (∀ i, i ∉ Tg.slotss ts → σ'[i]? = σ[i]?) → σ'.length = σ.length → Q σ' H
variable {X : Cx}
theorem pgWeak {e : Expr} {t t' : TG} (h : PG X e t) (i : ∀ v σ H Q, t' v σ H Q → t v σ H Q) : PG X e t' := ⟨fun pins s σ H v u Q I r q => h.run pins s σ H v u Q I r (i _ _ _ _ q)⟩
theorem pgsWeak {e : List Expr} {t t' : TGs} (h : PGs X e t) (i : ∀ v σ H Q, t' v σ H Q → t v σ H Q) : PGs X e t' := ⟨fun pins s σ H v u Q I r q => h.run pins s σ H v u Q I r (i _ _ _ _ q)⟩
theorem g_name {i : Nat} {x : Str} {pos : Pos} (nd : X.N.Nodup) (hN : X.N[i]? = some x) (hl : Loc X.env.scope x) (hf : X.fn x = true ∨ List.lookup x X.env.scope.names = some NameKind.local) : PG X (.Name x pos) (gT X.K (.name i)) :=
  pgWeak (pg_name nd hN hl hf) fun v σ H Q ⟨g, env, hp, m, d, env', S, r, hs, q⟩ => by
    simp only [setTg] at hs
    split at hs
    · cases hs
    · rename_i hn
      obtain rfl := Option.some.inj hs
      obtain ⟨S', so⟩ := S.putVal hn r
      refine q _ S' so (fun j hj => ?_) (List.length_set ..)
      rw [List.getElem?_set_ne (fun e => hj (by simp [Tg.slots, e]))]
theorem g_nil : PGs X [] (gTs X.K []) := pgsWeak pgs_nil fun vs σ H Q ⟨g, env, hp, m, ds, env', S, r, hs, q⟩ => by
  cases ds with
  | nil =>
    cases r
    obtain rfl := Option.some.inj hs
    exact ⟨rfl, q σ S SameOwn.refl (fun _ _ => rfl) rfl⟩
  | cons _ _ => cases hs
theorem g_cons {e : Expr} {es : List Expr} {t : Tg} {ts : List Tg} (h : PG X e (gT X.K t)) (hs : PGs X es (gTs X.K ts)) (he : assignEach (e :: es) X.env = (false, assign e X.env) :: assignEach es X.env) : PGs X (e :: es) (gTs X.K (t :: ts)) :=
  pgsWeak (pgs_cons h hs (by rw [he]; rfl)) fun vs σ H Q ⟨g, env, hp, m, ds, env', S, r, hs, q⟩ => by
    cases ds with
    | nil => cases hs
    | cons d ds =>
      cases r with
      | cons r rr =>
        obtain ⟨env1, h1, h2⟩ := Option.bind_eq_some_iff.mp (show (setTg t d env).bind (setTgs ts ds) = some env' from hs)
        refine ⟨_, _, rfl, g, env, hp, m, d, env1, S, r, h1, fun σ1 S1 so1 k1 l1 => ⟨g, env1, hp, m, ds, env', S1, ?_, h2, fun σ2 S2 so2 k2 l2 => ?_⟩⟩
        · rw [so1.fbd]
          exact rr
        · refine q σ2 S2 (so1.trans so2) (fun i hi => ?_) (l2.trans l1)
          rw [k2 i fun z => hi (List.mem_append_right _ z), k1 i fun z => hi (List.mem_append_left _ z)]
theorem setTgs_len : ∀ {ts : List Tg} {ds : List D} {env env' : Env}, setTgs ts ds env = some env' → ds.length = ts.length
  | [], [], _, _, _ => rfl
  | [], _ :: _, _, _, h => by cases h
  | _ :: _, [], _, _, h => by cases h
  | t :: ts, d :: ds, env, env', h => by
    obtain ⟨env1, h1, h2⟩ := Option.bind_eq_some_iff.mp (show (setTg t d env).bind (setTgs ts ds) = some env' from h)
    rw [List.length_cons, List.length_cons, setTgs_len h2]
theorem g_tup {es : List Expr} {k : Nat} {pos : Pos} {ts : List Tg} (hc : X.calm = true) (h : PGs X es (gTs X.K ts)) (hl : (assignEach es X.env).length = ts.length) (hst : (assignEach es X.env).findIdx? (·.1) = none) : PG X (.Tuple es k pos) (gT X.K (.tup ts)) :=
  pgWeak (pg_tup hc h hl hst) fun v σ H Q ⟨g, env, hp, m, d, env', S, r, hs, q⟩ => by
    cases d with
    | tup ds =>
      have hs : setTgs ts ds env = some env' := hs
      cases r with
      | tup h1 h2 => exact ⟨_, _, rfl, h1, by rw [h2.length, setTgs_len hs], g, env, hp, m, ds, env', S, h2, hs, q⟩
    | _ => cases hs
/-! ### slots made empty -/
theorem wipe_set (σ : L2.St) (i : Nat) : ∀ is : List Nat, wipe (σ.set i none) is = (wipe σ is).set i none
  | [] => rfl
  | j :: is => by
    show (wipe (σ.set i none) is).set j none = ((wipe σ is).set j none).set i none
    rw [wipe_set σ i is]
    by_cases e : i = j
    · rw [e]
    · exact (List.set_comm _ _ e)
theorem clear_rel : ∀ {is : List Nat} {env env' : Env} {σ : L2.St}, StRel K g env hp m σ H → clear env is = some env' → StRel K g env' hp m (wipe σ is) H ∧ SameOwn env σ env' (wipe σ is)
  | [], env, env', σ, S, h => by
    obtain rfl := Option.some.inj h
    exact ⟨S, SameOwn.refl⟩
  | i :: is, env, env', σ, S, h => by
    simp only [clear] at h
    split at h
    · cases h
    · rename_i hn
      obtain ⟨S1, so1⟩ := S.putNone hn
      obtain ⟨S2, so2⟩ := clear_rel S1 h
      rw [wipe_set] at S2 so2
      exact ⟨S2, so1.trans so2⟩
/-- as the guarded object is laid or changed -/
theorem Rep.upd {a : Addr} {o : HO} (ha : H a = none ∨ ∃ xs, H a = some (.lst xs)) {v : V} {d : D} (hn : ∀ b vs, H b = some (.lst vs) → ¬ Fbd g env σ m b → b ≠ a) (r : Rep K (Fbd g env σ m) m H v d) : Rep K (Fbd (g.guard a) env σ m) m (upd H a o) v d := by
  have ht : ∀ b o', H b = some o' → (∀ vs, o' ≠ .lst vs) → b ≠ a := fun b o' e n z => by
    subst z
    rcases ha with h | ⟨xs, h⟩
    · rw [h] at e
      cases e
    · rw [h] at e
      exact n _ (Option.some.inj e).symm
  refine r.move (fun b vs h => ?_) (fun b vs h n => ?_) fun _ _ h => h
  · rcases h with (h | ⟨o', h⟩) | h
    · exact .inl (.inl (by rw [upd_ne (ht b _ h fun _ e => by cases e)]; exact h))
    · exact .inl (.inr ⟨o', by rw [upd_ne (ht b _ h fun _ e => by cases e)]; exact h⟩)
    · exact .inr h
  · have ne := hn b vs h n
    exact ⟨by rw [upd_ne ne]; exact h, fun z => (guard_fbd.mp z).elim n ne⟩
theorem RepL.upd {a : Addr} {o : HO} (ha : H a = none ∨ ∃ xs, H a = some (.lst xs)) (hn : ∀ b vs, H b = some (.lst vs) → ¬ Fbd g env σ m b → b ≠ a) : ∀ {vs : List V} {ds : List D}, RepL K (Fbd g env σ m) m H vs ds → RepL K (Fbd (g.guard a) env σ m) m (upd H a o) vs ds
  | _, _, .nil => .nil
  | _, _, .cons h r => .cons (h.upd ha hn) (RepL.upd ha hn r)
theorem guard_guard {a : Addr} : (g.guard a).guard a = g.guard a := by
  unfold Gh.guard
  simp only [or_assoc, or_self]
theorem StRel.guard {a : Addr} {o : HO} (S : StRel K g env hp m σ H) (ha : H a = none ∨ ∃ xs, H a = some (.lst xs)) (hn : ∀ b vs, H b = some (.lst vs) → ¬ Fbd g env σ m b → b ≠ a) (hm : a ∉ m) (ho : ¬ isOwn env σ a) (hw : ∀ b vs, Bor K m H b vs → b = a → SqL K (fun _ => none) b vs) (h0 : g.H0 a = none ∨ a ∈ g.m0) :
    StRel K (g.guard a) env hp m σ (upd H a o) := by
  refine ⟨S.len, fun i x hx => ?_, S.apart, S.cells, fun k xs h => ?_, S.nd, fun b h => ?_, fun b o' h n nt => ?_, S.more, tabs_upd S.tabs ha, fun b h => has_upd (S.has b h)⟩
  · have := S.slots i x hx
    cases x with
    | none => trivial
    | val d =>
      obtain ⟨v, h1, h2⟩ := this
      exact ⟨v, h1, h2.upd ha hn⟩
    | own d =>
      obtain ⟨b, vs, ds, h1, h2, h3, h4, h5, h6, h7⟩ := this
      have ne : b ≠ a := fun e => ho (e ▸ ⟨i, d, hx, h1⟩)
      exact ⟨b, vs, ds, h1, h2, by rw [upd_ne ne]; exact h3, h4.upd ha hn, h5, h6, fun z => z.elim h7 ne⟩
    | bor d =>
      obtain ⟨b, vs, ds, h1, h2, h3, h4, h5⟩ := this
      refine ⟨b, vs, ds, h1, h2, ?_, h4.upd ha hn, h5⟩
      by_cases e : b = a
      · exact .inr (hw b vs h3 e)
      · rcases h3 with ⟨h | ⟨o', h⟩, n⟩ | h
        · exact .inl ⟨.inl (by rw [upd_ne e]; exact h), n⟩
        · exact .inl ⟨.inr ⟨o', by rw [upd_ne e]; exact h⟩, n⟩
        · exact .inr h
  · obtain ⟨b, vs, h1, h2, h3⟩ := S.cell k xs h
    have ne : b ≠ a := fun e => hm (e ▸ List.mem_of_getElem? h1)
    exact ⟨b, vs, h1, by rw [upd_ne ne]; exact h2, h3.upd ha hn⟩
  · by_cases e : b = a
    · rw [e, upd_same]
      simp
    · rw [upd_ne e]
      exact S.pr b (h.elim id fun z => absurd z e)
  · have ne : b ≠ a := fun e => by
      subst e
      rcases h0 with z | z
      · have h : g.H0 b = some o' := h
        rw [z] at h
        cases h
      · exact n z
    rw [upd_ne ne]
    exact S.frame b o' h n nt
end
end Ev
end

section
set_option Elab.async false
set_option linter.all false
set_option maxRecDepth 100000
namespace Ev
open PySem L2 PyProof.Rows
variable [TabList]
section
variable {K : PySem.W.Frag} {g : Gh} {env env' : Env} {hp hp' : Heap} {m m' : List Addr} {σ σ' : L2.St} {H H' : Hp}
theorem wipe_get (σ : L2.St) : ∀ (vs : List Nat) (i : Nat), (wipe σ vs)[i]? = if i ∈ vs ∧ i < σ.length then some none else σ[i]?
  | [], i => by simp [wipe]
  | v :: vs, i => by
    show ((wipe σ vs).set v none)[i]? = _
    rw [List.getElem?_set, wipe_length, wipe_get σ vs i]
    by_cases e : v = i
    · subst e
      by_cases hl : v < σ.length
      · simp [hl]
      · simp [hl]
    · rw [if_neg e]
      have : (i ∈ v :: vs) ↔ i ∈ vs := by
        rw [List.mem_cons]
        exact ⟨fun z => z.elim (fun z => absurd z.symm e) id, .inr⟩
      simp only [this]
theorem wipe_same {vs : List Nat} (hl : σ'.length = σ.length) (h : ∀ i, i ∉ vs → σ'[i]? = (wipe σ vs)[i]?) : wipe σ' vs = wipe σ vs := by
  apply List.ext_getElem?
  intro i
  rw [wipe_get σ' vs i, wipe_get σ vs i, hl]
  by_cases c : i ∈ vs ∧ i < σ.length
  · rw [if_pos c, if_pos c]
  · rw [if_neg c, if_neg c]
    by_cases hi : i ∈ vs
    · have : ¬ i < σ.length := fun z => c ⟨hi, z⟩
      rw [List.getElem?_eq_none (by omega), List.getElem?_eq_none (by omega)]
    · rw [h i hi, wipe_get, if_neg fun z => hi z.1]
theorem Rep.less {Fb Fb' : Addr → Prop} (hf : ∀ a, Fb' a → Fb a) {v : V} {d : D} (r : Rep K Fb m H v d) : Rep K Fb' m H v d :=
  r.move (fun _ _ h => h) (fun _ _ h n => ⟨h, fun z => n (hf _ z)⟩) fun _ _ h => h
theorem RepL.less {Fb Fb' : Addr → Prop} (hf : ∀ a, Fb' a → Fb a) {v : List V} {d : List D} (r : RepL K Fb m H v d) : RepL K Fb' m H v d :=
  r.move (fun _ _ h => h) (fun _ _ h n => ⟨h, fun z => n (hf _ z)⟩) fun _ _ h => h
theorem StRel.unguard {L : Addr} (S : StRel K (g.guard L) env hp m σ H) : StRel K g env hp m σ H := by
  have hf : ∀ a, Fbd g env σ m a → Fbd (g.guard L) env σ m a := fun a z => guard_fbd.mpr (.inl z)
  refine ⟨S.len, fun i x hx => ?_, S.apart, S.cells, fun k xs h => ?_, S.nd, fun a h => S.pr a (.inl h), S.frame, S.more, S.tabs, S.has⟩
  · have := S.slots i x hx
    cases x with
    | none => trivial
    | val d =>
      obtain ⟨v, h1, h2⟩ := this
      exact ⟨v, h1, h2.less hf⟩
    | own d =>
      obtain ⟨a, vs, ds, h1, h2, h3, h4, h5, h6, h7⟩ := this
      exact ⟨a, vs, ds, h1, h2, h3, h4.less hf, h5, h6, fun z => h7 (.inl z)⟩
    | bor d =>
      obtain ⟨a, vs, ds, h1, h2, h3, h4, h5⟩ := this
      exact ⟨a, vs, ds, h1, h2, h3, h4.less hf, h5⟩
  · obtain ⟨a, vs, h1, h2, h3⟩ := S.cell k xs h
    exact ⟨a, vs, h1, h2, h3.less hf⟩
/-- back in the state around, the guarded list grown -/
theorem StRel.backG {L : Addr} {xs : List V} (S : StRel K g env hp m σ H) (hL : H L = none) (S' : StRel K (g.guard L) env' hp' m' σ' H') (so : SameOwn env σ env' σ') (st : Step m H m' (upd H' L (.lst xs))) (hL' : ∃ xs, H' L = some (.lst xs)) (hm : L ∉ m') : StRel K (g.guard L) env hp' m' σ (upd H' L (.lst xs)) := by
  have fb : Fbd (g.guard L) env' σ' m' = Fbd (g.guard L) env σ m' := so.fbd
  have ne : ∀ {a : Addr} {o : HO}, H a = some o → a ≠ L := fun h e => by
    rw [e, hL] at h
    cases h
  refine ⟨S.len, fun i x hx => ?_, S.apart, S'.cells, fun k ys h => ?_, S'.nd, fun a h => ?_, fun a o h n nt => ?_, S'.more, tabs_upd S'.tabs (.inr hL'), fun a h => has_upd (S'.has a h)⟩
  · have := S.slots i x hx
    cases x with
    | none => trivial
    | val d =>
      obtain ⟨v, h1, h2⟩ := this
      exact ⟨v, h1, h2.gstep S st hL⟩
    | own d =>
      obtain ⟨a, vs, ds, h1, h2, h3, h4, h5, h6, h7⟩ := this
      exact ⟨a, vs, ds, h1, h2, st.keep a _ h3 h6, h4.gstep S st hL, h5, st.off h3 h6, fun z => z.elim h7 (ne h3)⟩
    | bor d =>
      obtain ⟨a, vs, ds, h1, h2, h3, h4, h5⟩ := this
      exact ⟨a, vs, ds, h1, h2, h3.step st, h4.gstep S st hL, h5⟩
  · obtain ⟨a, vs, h1, h2, h3⟩ := S'.cell k ys h
    have na : a ≠ L := fun e => hm (e ▸ List.mem_of_getElem? h1)
    refine ⟨a, vs, h1, by rw [upd_ne na]; exact h2, ?_⟩
    have := h3.upd (o := HO.lst xs) (.inr hL') fun b ws hb nb e => nb (guard_fbd.mpr (.inr e))
    rw [guard_guard, fb] at this
    exact this
  · by_cases e : a = L
    · rw [e, upd_same]
      simp
    · rw [upd_ne e]
      exact S'.pr a h
  · have h' : H a = some o := S.frame a o h n nt
    rw [upd_ne (ne h')]
    exact S'.frame a o h n nt
theorem StRel.startG {L : Addr} {o : HO} (S : StRel K g env hp m σ H) (hL : H L = none) : StRel K (g.guard L) env hp m σ (upd H L o) := by
  refine S.guard (.inl hL) (fun b vs h _ e => ?_) (fun z => ?_) (fun z => ?_) (fun b vs h e => ?_) ?_
  · rw [e, hL] at h
    cases h
  · obtain ⟨vs, h⟩ := S.at_m z
    rw [hL] at h
    cases h
  · obtain ⟨vs, h⟩ := S.at_own z
    rw [hL] at h
    cases h
  · subst e
    rcases h with ⟨h | ⟨o, h⟩, _⟩ | h
    · rw [hL] at h
      cases h
    · rw [hL] at h
      cases h
    · exact h
  · cases q : g.H0 L with
    | none => exact .inl rfl
    | some o' =>
      exact absurd hL (S.has L (by rw [q]; simp))
end
/-! ### tests of a clause; readings that carry their own ghost -/
section
variable (K : PySem.W.Frag) (Γ : Nat → List D → Heap → R D)
def tEg (c : E) : TE := fun σ H Q => ∃ g, tE K Γ g c σ H Q
def tTg (c : E) : TT := fun σ H Q => ∃ g, tT K Γ g c σ H Q
def tIg (b : Bool) (c : E) : TI := fun σ H Q => ∃ g, tI K Γ g b c σ H Q
def tCg (cs : List E) : TT := fun σ H Q => ∃ g, ∃ env hp m, StRel K g env hp m σ H ∧ ∃ b hp', evC reprL Γ cs env hp = some (.ok b hp') ∧
  ∀ H' m', StRel K g env hp' m' σ H' → Step m H m' H' → Q b H'
variable {K Γ} {X : Cx}
theorem eg {e : Expr} {c : E} (h : ∀ g, PE X e (tE X.K Γ g c)) : PE X e (tEg X.K Γ c) := ⟨fun pins s σ H Q I ⟨g, q⟩ => (h g).run pins s σ H Q I q⟩
theorem tg {e : Expr} {c : E} (h : ∀ g, PT X e (tT X.K Γ g c)) : PT X e (tTg X.K Γ c) := ⟨fun pins s σ H Q I ⟨g, q⟩ => (h g).run pins s σ H Q I q⟩
theorem ig {b : Bool} {tg e : Expr} {c : E} (h : ∀ g, PI X tg e (tI X.K Γ g b c)) : PI X tg e (tIg X.K Γ b c) := ⟨fun pins s σ H Q I ⟨g, q⟩ => (h g).run pins s σ H Q I q⟩
theorem ptsWeak {e : List Expr} {t t' : TT} (h : PTs X e t) (i : ∀ σ H Q, t' σ H Q → t σ H Q) : PTs X e t' := ⟨fun pins s σ H Q I q => h.run pins s σ H Q I (i _ _ _ q)⟩
theorem c_nil : PTs X [] (tCg X.K Γ []) := ptsWeak pts_nil fun σ H Q ⟨g, env, hp, m, S, b, hp', ev, q⟩ => by
  obtain ⟨rfl, rfl⟩ := rok_inj (show some (Out.ok true hp) = some (.ok b hp') from ev)
  exact q H m S Step.refl
theorem c_one {e : Expr} {c : E} (h : ∀ g, PT X e (tT X.K Γ g c)) : PTs X [e] (tCg X.K Γ [c]) := ptsWeak (pts_one (tg h)) fun σ H Q ⟨g, env, hp, m, S, b, hp', ev, q⟩ => by
  obtain ⟨d, h1, e1, ev⟩ := bind_some (show R.bind (evE reprL Γ c env hp) _ = _ from ev)
  cases d with
  | bl z =>
    have : z = b ∧ h1 = hp' := by
      cases z with
      | true => exact rok_inj (show some (Out.ok true h1) = some (.ok b hp') from ev)
      | false => exact rok_inj ev
    obtain ⟨rfl, rfl⟩ := this
    exact ⟨g, env, hp, m, S, z, h1, e1, q⟩
  | _ => cases ev
end
end Ev
end

section
set_option Elab.async false
set_option linter.all false
set_option maxRecDepth 100000
namespace Ev
open PySem L2 PyProof.Rows
variable [TabList]
section
variable {Γ : Nat → List D → Heap → R D}
/-- a turn of [elt for tg in .. if ..] -/
def lcTurn (Γ : Nat → List D → Heap → R D) (elt : E) (cnd : List E) (tgs : List Nat) (tg : Tg) (env : Env) (x : D) (h : Heap) : R (List D) := match (clear env tgs).bind (setTg tg x) with
  | none => none
  | some env => R.bind (evC reprL Γ cnd env h) fun b h => if b then R.bind (evE reprL Γ elt env h) fun y h => rok [y] h else rok [] h
theorem evE_lc {elt it : E} {tg : Tg} {cnd : List E} {env : Env} {hp hp' : Heap} {d : D} (ev : evE reprL Γ (.lc elt tg it cnd) env hp = some (.ok d hp')) :
    ∃ s h1 xs ys, evE reprL Γ it env hp = some (.ok s h1) ∧ walk? s = some xs ∧ compLoop (lcTurn Γ elt cnd tg.slots tg env) xs h1 = some (.ok ys hp') ∧ d = .lst ys := by
  obtain ⟨s, h1, e1, ev⟩ := bind_some (show R.bind (evE reprL Γ it env hp) _ = _ from ev)
  cases hw : walk? s with
  | none =>
    rw [hw] at ev
    cases ev
  | some xs =>
    rw [hw] at ev
    obtain ⟨ys, h2, e2, ev⟩ := bind_some ev
    obtain ⟨rfl, rfl⟩ := rok_inj ev
    exact ⟨s, h1, xs, ys, e1, hw, e2, rfl⟩
theorem compLoop_cons {α : Type} {f : D → Heap → R (List α)} {x : D} {xs : List D} {h h' : Heap} {ys : List α} (e : compLoop f (x :: xs) h = some (.ok ys h')) : ∃ o h1 rest, f x h = some (.ok o h1) ∧ compLoop f xs h1 = some (.ok rest h') ∧ ys = o ++ rest := by
  obtain ⟨o, h1, e1, e⟩ := bind_some (show R.bind (f x h) _ = _ from e)
  obtain ⟨rest, h2, e2, e⟩ := bind_some e
  obtain ⟨rfl, rfl⟩ := rok_inj e
  exact ⟨o, h1, rest, e1, e2, rfl⟩
theorem lcTurn_ok {elt : E} {cnd : List E} {tg : Tg} {vs : List Nat} {env : Env} {x : D} {h h' : Heap} {o : List D} (e : lcTurn Γ elt cnd vs tg env x h = some (.ok o h')) :
    ∃ env1 env2 b h1, clear env vs = some env1 ∧ setTg tg x env1 = some env2 ∧ evC reprL Γ cnd env2 h = some (.ok b h1) ∧ (b = true → ∃ y, evE reprL Γ elt env2 h1 = some (.ok y h') ∧ o = [y]) ∧ (b = false → o = [] ∧ h1 = h') := by
  unfold lcTurn at e
  split at e
  · cases e
  · rename_i env2 he
    obtain ⟨env1, h1, h2⟩ := Option.bind_eq_some_iff.mp he
    obtain ⟨b, h3, e1, e⟩ := bind_some e
    refine ⟨env1, env2, b, h3, h1, h2, e1, fun hb => ?_, fun hb => ?_⟩
    · subst hb
      obtain ⟨y, h4, e2, e⟩ := bind_some (show R.bind (evE reprL Γ elt env2 h3) _ = _ from e)
      obtain ⟨rfl, rfl⟩ := rok_inj e
      exact ⟨y, e2, rfl⟩
    · subst hb
      obtain ⟨rfl, rfl⟩ := rok_inj (show some (Out.ok [] h3) = some (.ok o h') from e)
      exact ⟨rfl, rfl⟩
theorem upd_off {H : Hp} {m m' : List Addr} {L : Addr} {o o' : HO} {H' : Hp} (st : Step m (upd H L o) m' H') (hL : H L = none) (hm : L ∉ m) (ho : ∃ xs, o = .lst xs := by exact ⟨_, rfl⟩) : Step m H m' (upd H' L o') ∧ Step m H m' H' ∧ H' L = some o ∧ L ∉ m' := by
  have h0 : (upd H L o) L = some o := upd_same ..
  have ne : ∀ {a : Addr} {q : HO}, H a = some q → a ≠ L := fun h e => by
    rw [e, hL] at h
    cases h
  have off := st.off h0 hm
  have more : ∃ r, m' = m ++ r ∧ ∀ a ∈ r, H a = none := by
    obtain ⟨r, e, f⟩ := st.more
    refine ⟨r, e, fun a ha => ?_⟩
    have na : a ≠ L := fun z => off (by rw [e, ← z]; exact List.mem_append_right _ ha)
    have := f a ha
    rw [upd_ne na] at this
    exact this
  have kp : ∀ a q, H a = some q → a ∉ m → NT q → H' a = some q := fun a q h n nt => st.keep a q (by rw [upd_ne (ne h)]; exact h) n nt
  obtain ⟨xs0, rfl⟩ := ho
  have tb : ∀ T, LamX.Tabs T H → LamX.Tabs T H' := fun T t => st.tabs T (tabs_upd t (.inl hL))
  have hk : H' L = some (.lst xs0) := st.keep L _ h0 hm
  have th : ∀ a q, H a = some q → ∃ q', H' a = some q' := fun a q h => st.there a q (by rw [upd_ne (ne h)]; exact h)
  refine ⟨⟨more, fun a q h n nt => ?_, fun a q h => ?_, fun T t => tabs_upd (tb T t) (.inr ⟨_, hk⟩)⟩, ⟨more, kp, th, tb⟩, hk, off⟩
  · rw [upd_ne (ne h)]
    exact kp a q h n nt
  · obtain ⟨q', h'⟩ := th a q h
    exact ⟨q', by rw [upd_ne (ne h)]; exact h'⟩
end
section
variable {X : Cx} {Γ : Nat → List D → Heap → R D} {g : Gh}
/-- a list that nobody has yet -/
def tF (K : PySem.W.Frag) (Γ : Nat → List D → Heap → R D) (g : Gh) (c : E) : TE := fun σ H Q => ∃ env hp m, StRel K g env hp m σ H ∧ ∃ d hp', evE reprL Γ c env hp = some (.ok d hp') ∧ (∃ ds, d = .lst ds) ∧
  ∀ ds a vs H' m', d = .lst ds → H a = none → StRel K (g.guard a) env hp' m' σ H' → Step m H m' H' → a ∉ m' → H' a = some (.lst vs) → RepL K (Fbd (g.guard a) env σ m') m' H' vs ds → Q (.ref a) H'
theorem f_of {c : E} (hl : ∀ env hp d hp', evE reprL Γ c env hp = some (.ok d hp') → ∃ ds, d = .lst ds) {σ : L2.St} {H : Hp} {Q : VK} (q : tE X.K Γ g c σ H Q) : tF X.K Γ g c σ H Q := by
  obtain ⟨env, hp, m, S, d, hp', ev, q⟩ := q
  refine ⟨env, hp, m, S, d, hp', ev, hl _ _ _ _ ev, fun ds a vs H' m' hd ha S' st hm hv r => ?_⟩
  subst hd
  have hf : ∀ b, Fbd g env σ m' b → Fbd (g.guard a) env σ m' b := fun b z => guard_fbd.mpr (.inl z)
  refine q _ _ m' S'.unguard st (.lst hv (fun z => ?_) (r.less hf))
  rcases z with z | z | z
  · exact S.fb a (.inl z) ha
  · exact S.fb a (.inr (.inl z)) ha
  · exact hm z
theorem pe_of_f {e : Expr} {c : E} (h : PE X e (tF X.K Γ g c)) (hl : ∀ env hp d hp', evE reprL Γ c env hp = some (.ok d hp') → ∃ ds, d = .lst ds) : PE X e (tE X.K Γ g c) := peWeak h fun _ _ _ q => f_of hl q
/-- what a list comprehension answers, said in the layer's words -/
theorem lc_reads {elt it : E} {tg : Tg} {cnd : List E} {σ : L2.St} {H : Hp} {Q : VK} (q : tF X.K Γ g (.lc elt tg it cnd) σ H Q) :
    tLc (tI X.K Γ g false it) (gT X.K tg) (tCg X.K Γ cnd) (tEg X.K Γ elt) tg.slots σ H Q := by
  obtain ⟨env, hp, m, S, d, hp', ev, _, q⟩ := q
  obtain ⟨s, h1, xs, ys, e1, hw, e2, rfl⟩ := evE_lc ev
  refine ⟨env, hp, m, S, s, h1, xs, e1, hw, fun J ok H1 m1 S1 st1 wk ok1 hlen L hL => ?_⟩
  have hm1 : L ∉ m1 := fun z => by
    obtain ⟨vs, h⟩ := S1.at_m z
    rw [hL] at h
    cases h
  refine ⟨fun i μ H2 => μ = xs.length - i ∧ i ≤ xs.length ∧ ∃ h2 m2 acc vacc rest, StRel X.K (g.guard L) env h2 m2 σ H2 ∧ Step m1 H1 m2 H2 ∧ L ∉ m2 ∧ H2 L = some (.lst vacc) ∧ RepL X.K (Fbd (g.guard L) env σ m2) m2 H2 vacc acc ∧
    compLoop (lcTurn Γ elt cnd tg.slots tg env) (xs.drop i) h2 = some (.ok rest hp') ∧ ys = acc ++ rest ∧ acc.length ≤ i, ⟨xs.length, ?_⟩, ?_⟩
  · refine ⟨by simp, Nat.zero_le _, h1, m1, [], [], ys, S1.startG hL, ?_, hm1, upd_same .., .nil, e2, rfl, Nat.le_refl _⟩
    exact Step.ext (Evl.Ex.new hL)
  · rintro i μ H2 ⟨rfl, hi, h2, m2, acc, vacc, rest, S2, st2, hm2, hL2, racc, e3, ha, hacc⟩
    have ok2 : ok (g.guard L) env σ m2 H2 := wk.grd g env h1 σ m1 H1 L m2 H2 S1 hL st2 ok1
    by_cases hlt : i < xs.length
    · refine .inr ?_
      obtain ⟨go, yl⟩ := wk.go (g.guard L) env h2 σ m2 H2 i S2 ok2 hlt
      refine ⟨go, fun H' => ?_, ?_⟩
      · exact i + 1 ≤ xs.length ∧ ∃ h2 m2 acc vacc rest, StRel X.K (g.guard L) env h2 m2 σ H' ∧ Step m1 H1 m2 H' ∧ L ∉ m2 ∧ H' L = some (.lst vacc) ∧ RepL X.K (Fbd (g.guard L) env σ m2) m2 H' vacc acc ∧
          compLoop (lcTurn Γ elt cnd tg.slots tg env) (xs.drop (i + 1)) h2 = some (.ok rest hp') ∧ ys = acc ++ rest ∧ acc.length ≤ i + 1
      · refine ⟨fun H' h => ⟨xs.length - (i + 1), by omega, rfl, h⟩, fun x H3 y => ?_⟩
        obtain ⟨ex3, d, hd, rx⟩ := yl x H3 y
        have hdrop : xs.drop i = d :: xs.drop (i + 1) := by
          obtain ⟨hl, rfl⟩ := List.getElem?_eq_some_iff.mp hd
          exact List.drop_eq_getElem_cons hl
        rw [hdrop] at e3
        obtain ⟨o, h3, rest', e4, e5, rfl⟩ := compLoop_cons e3
        obtain ⟨env1, env2, b, h4, c1, c2, c3, kt, kf⟩ := lcTurn_ok e4
        have S3 : StRel X.K (g.guard L) env h2 m2 σ H3 := S2.ext ex3
        obtain ⟨S4, so4⟩ := clear_rel S3 c1
        refine ⟨g.guard L, env1, h2, m2, d, env2, S4, by rw [so4.fbd]; exact rx, c2, fun σ5 S5 so5 k5 l5 => ⟨wipe_same (by rw [l5, wipe_length]) k5, ?_⟩⟩
        refine ⟨g.guard L, env2, h2, m2, S5, b, h4, c3, fun H6 m6 S6 st6 => ?_⟩
        have so : SameOwn env σ env2 σ5 := so4.trans so5
        have stA : Step m1 H1 m2 H3 := st2.trans (Step.ext ex3)
        have hL3 : H3 L = some (.lst vacc) := ex3 _ _ hL2
        have S6' : StRel X.K (g.guard L) env h4 m6 σ H6 := S3.back S6 so st6
        have racc3 : RepL X.K (Fbd (g.guard L) env σ m2) m2 H3 vacc acc := racc.ext ex3
        have at3 : ∀ a ∈ m2, ∃ vs, H3 a = some (.lst vs) := fun a h => S3.at_m h
        cases b with
        | false =>
          refine iteF ?_
          obtain ⟨rfl, rfl⟩ := kf rfl
          exact ⟨hlt, h4, m6, acc, vacc, rest', S6', stA.trans st6, st6.off hL3 hm2, st6.keep _ _ hL3 hm2, racc3.step at3 st6, e5, ha, by omega⟩
        | true =>
          refine iteT ?_
          obtain ⟨y, e6, rfl⟩ := kt rfl
          refine ⟨g.guard L, env2, h4, m6, S6, y, h3, e6, fun v H7 m7 S7 st7 r7 => ?_⟩
          have stB : Step m2 H3 m7 H7 := st6.trans st7
          have hL7 : H7 L = some (.lst vacc) := stB.keep _ _ hL3 hm2
          have hm7 : L ∉ m7 := stB.off hL3 hm2
          have racc7 : RepL X.K (Fbd (g.guard L) env σ m7) m7 H7 vacc acc := racc3.step at3 stB
          refine ⟨vacc, hL7, by rw [← LIM_eq, racc7.length]; omega, hlt, h3, m7, acc ++ [y], vacc ++ [v], rest', ?_⟩
          have stC : Step m1 H1 m7 (upd H7 L (.lst (vacc ++ [v]))) := by
            have := stA.trans stB
            refine ⟨this.more, fun a q h n nt => ?_, fun a q h => ?_, fun T t => tabs_upd (this.tabs T t) (.inr ⟨_, hL7⟩)⟩
            · rw [upd_ne fun e => by rw [e, hL] at h; cases h]
              exact this.keep a q h n nt
            · rw [upd_ne fun e => by rw [e, hL] at h; cases h]
              exact this.there a q h
          have hgu : ∀ {vs : List V} {ds : List D}, RepL X.K (Fbd (g.guard L) env σ m7) m7 H7 vs ds → RepL X.K (Fbd (g.guard L) env σ m7) m7 (upd H7 L (.lst (vacc ++ [v]))) vs ds := fun {vs ds} r => by
            have := r.upd (o := HO.lst (vacc ++ [v])) (.inr ⟨_, hL7⟩) fun b ws hb nb e => nb (guard_fbd.mpr (.inr e))
            rw [guard_guard] at this
            exact this
          have r7' : RepL X.K (Fbd (g.guard L) env σ m7) m7 H7 [v] [y] := by
            rw [so.fbd] at r7
            exact .cons r7 .nil
          refine ⟨S1.backG hL S7 so stC ⟨_, hL7⟩ hm7, stC, hm7, upd_same .., (hgu racc7).append (hgu r7'), e5, by rw [ha]; simp, by simp; omega⟩
    · have hi' : i = xs.length := by omega
      subst hi'
      refine .inl ⟨wk.stop _ _ _ _ _ ok2, ?_⟩
      rw [List.drop_length] at e3
      obtain ⟨rfl, rfl⟩ := rok_inj (show some (Out.ok [] h2) = some (.ok rest hp') from e3)
      rw [List.append_nil] at ha
      subst ha
      exact q _ L _ _ m2 rfl (st1.fresh hL) S2 (st1.trans st2) hm2 hL2 racc
theorem f_lc {elt tg iter : Expr} {ifs : List Expr} {scope : Scope} {own : List (Str × Nat)} {pos : Pos} {c it : E} {cnd : List E} {t : Tg} (hc : X.calm = true) (hN : X.N.Nodup) (hi : PI X tg iter (tI X.K Γ g false it)) (ok : BlkOk X.N X.env.scope scope own) (ho : own.map (·.2) = t.slots)
    (hg : ∀ (s : Shared) (H : Hp) (C : Addr) (cl : List (Str × Addr)) (fp : List Addr), PG (X.blk s H scope (compEnvC scope cl C X.env) fp) tg (gT X.K t))
    (ht : ∀ (s : Shared) (H : Hp) (C : Addr) (cl : List (Str × Addr)) (fp : List Addr), PTs (X.blk s H scope (compEnvC scope cl C X.env) fp) ifs (tCg X.K Γ cnd))
    (he : ∀ (s : Shared) (H : Hp) (C : Addr) (cl : List (Str × Addr)) (fp : List Addr), PE (X.blk s H scope (compEnvC scope cl C X.env) fp) elt (tEg X.K Γ c)) (hs : ∀ x, foldedSetIterable iter X.env x = pure x) :
    PE X (.ListComp elt [⟨tg, iter, ifs, 0⟩] scope pos) (tF X.K Γ g (.lc c t it cnd)) :=
  peWeak (pe_lc hc hN hi ok hg ht he hs) fun σ H Q q => by
    rw [ho]
    exact lc_reads q
theorem lc_lst {c it : E} {cnd : List E} {t : Tg} : ∀ env hp d hp', evE reprL Γ (.lc c t it cnd) env hp = some (.ok d hp') → ∃ ds, d = .lst ds := fun env hp d hp' ev =>
  let ⟨_, _, _, ys, _, _, _, e⟩ := evE_lc ev
  ⟨ys, e⟩
theorem f_lst {es : List Expr} {cs : List E} {pos : Pos} (h : PA X es (tEs X.K Γ g cs)) (hl : cs.length ≤ sizeLine) : PE X (.List es pos) (tF X.K Γ g (.lst cs)) :=
  peWeak (pe_lst h) fun σ H Q ⟨env, hp, m, S, d, hp', ev, _, q⟩ => by
    obtain ⟨xs, h1, e1, ev⟩ := bind_some (show R.bind (evEs reprL Γ cs env hp) _ = _ from ev)
    obtain ⟨rfl, rfl⟩ := rok_inj ev
    refine ⟨env, hp, m, S, xs, h1, e1, fun vs H1 m1 S1 st1 r1 => ⟨?_, fun p np => ?_⟩⟩
    · rw [r1.length, evEs_len e1]
      exact hl
    · refine q _ p vs _ m1 rfl (st1.fresh np) (S1.startG np) (st1.trans (Step.ext (Evl.Ex.new np))) (fun z => ?_) (upd_same ..) (r1.upd (.inl np) fun b ws hb _ e => ?_)
      · obtain ⟨ws, hw⟩ := S1.at_m z
        rw [np] at hw
        cases hw
      · rw [e, np] at hb
        cases hb
theorem lst_lst {cs : List E} : ∀ env hp d hp', evE reprL Γ (.lst cs) env hp = some (.ok d hp') → ∃ ds, d = .lst ds := fun env hp d hp' ev => by
  obtain ⟨xs, h1, e1, ev⟩ := bind_some (show R.bind (evEs reprL Γ cs env hp) _ = _ from ev)
  obtain ⟨rfl, rfl⟩ := rok_inj ev
  exact ⟨_, rfl⟩
end
end Ev
end

section
set_option Elab.async false
set_option linter.all false
set_option maxRecDepth 100000
namespace Ev
open PySem L2 PyProof.Rows
variable [TabList]
/-! ### lists that get an owner -/
def Gh.guards (g : Gh) (L : List Addr) : Gh := { g with Pr := fun b => g.Pr b ∨ b ∈ L }
section
variable {K : PySem.W.Frag} {g : Gh} {env env' : Env} {hp hp' : Heap} {m m' : List Addr} {σ σ' : L2.St} {H H' : Hp} {L : List Addr}
theorem guards_nil : g.guards [] = g := by
  unfold Gh.guards
  simp
theorem guards_cons {a : Addr} : (g.guard a).guards L = g.guards (a :: L) := by
  unfold Gh.guards Gh.guard
  simp only [List.mem_cons, or_assoc]
theorem guards_fbd {b : Addr} : Fbd (g.guards L) env σ m b ↔ Fbd g env σ m b ∨ b ∈ L := by
  unfold Fbd Gh.guards
  constructor
  · rintro ((h | h) | h | h)
    · exact .inl (.inl h)
    · exact .inr h
    · exact .inl (.inr (.inl h))
    · exact .inl (.inr (.inr h))
  · rintro ((h | h | h) | h)
    · exact .inl (.inl h)
    · exact .inr (.inl h)
    · exact .inr (.inr h)
    · exact .inl (.inr h)
theorem guards_step (s : Step m H m' H') (hL : ∀ a ∈ L, H a = none) {a : Addr} {o : HO} (h : H a = some o) (n : ¬ Fbd g env σ m a) (nt : NT o := by intro ps z; cases z) : H' a = some o ∧ ¬ Fbd (g.guards L) env σ m' a :=
  ⟨s.keep a _ h (fun z => n (.inr (.inr z))) nt, fun z => (guards_fbd.mp z).elim (fbd_step s h n) fun e => by
    rw [hL a e] at h
    cases h⟩
theorem Rep.gsteps (S : StRel K g env hp m σ H) (s : Step m H m' H') (hL : ∀ a ∈ L, H a = none) {v : V} {d : D} (r : Rep K (Fbd g env σ m) m H v d) : Rep K (Fbd (g.guards L) env σ m') m' H' v d :=
  r.move (fun _ _ h => sqt_step (fun a h => S.at_m h) s h) (fun a vs h n => guards_step s hL h n) fun _ _ h => s.get h
theorem RepL.gsteps (S : StRel K g env hp m σ H) (s : Step m H m' H') (hL : ∀ a ∈ L, H a = none) {v : List V} {d : List D} (r : RepL K (Fbd g env σ m) m H v d) : RepL K (Fbd (g.guards L) env σ m') m' H' v d :=
  r.move (fun _ _ h => sqt_step (fun a h => S.at_m h) s h) (fun a vs h n => guards_step s hL h n) fun _ _ h => s.get h
/-- values, some of them lists that get an owner -/
inductive RepP (K : PySem.W.Frag) (Fb : Addr → Prop) (m : List Addr) (H : Hp) : List Bool → List V → List D → List Addr → Prop
  | nil : RepP K Fb m H [] [] [] []
  | val {v d fs vs ds L} : Rep K Fb m H v d → RepP K Fb m H fs vs ds L → RepP K Fb m H (false :: fs) (v :: vs) (d :: ds) L
  | own {a ws es fs vs ds L} : H a = some (.lst ws) → RepL K Fb m H ws es → a ∉ L → a ∉ m → RepP K Fb m H fs vs ds L → RepP K Fb m H (true :: fs) (.ref a :: vs) (.lst es :: ds) (a :: L)
theorem RepP.less {Fb Fb' : Addr → Prop} (hf : ∀ a, Fb' a → Fb a) {fs : List Bool} {vs : List V} {ds : List D} (r : RepP K Fb m H fs vs ds L) : RepP K Fb' m H fs vs ds L := by
  induction r with
  | nil => exact .nil
  | val h _ ih => exact .val (h.less hf) ih
  | own h1 h2 h3 h4 _ ih => exact .own h1 (h2.less hf) h3 h4 ih
theorem own_sub {i : Nat} {ds : List D} {a : Addr} {b : Addr} (h : Fbd (g.guards L) (env.set i (.own (.lst ds))) (σ.set i (some (.ref a))) m b) : Fbd (g.guards (a :: L)) env σ m b := by
  rcases h with (h | h) | ⟨j, d, h1, h2⟩ | h
  · exact .inl (.inl h)
  · exact .inl (.inr (List.mem_cons_of_mem _ h))
  · by_cases e : i = j
    · subst e
      rw [List.getElem?_set] at h2
      simp only [if_true] at h2
      split at h2
      · cases h2
        exact .inl (.inr List.mem_cons_self)
      · cases h2
    · rw [List.getElem?_set_ne e] at h1 h2
      exact .inr (.inl ⟨j, d, h1, h2⟩)
  · exact .inr (.inr h)
/-- a slot becomes the owner -/
theorem StRel.own {i : Nat} {a : Addr} {ws : List V} {ds : List D} (S : StRel K (g.guards (a :: L)) env hp m σ H) (hi : i < env.length) (ha : H a = some (.lst ws)) (r : RepL K (Fbd (g.guards (a :: L)) env σ m) m H ws ds)
    (h0 : g.H0 a = none) (hm : a ∉ m) (hpr : ¬ g.Pr a) (hL : a ∉ L) : StRel K (g.guards L) (env.set i (.own (.lst ds))) hp m (σ.set i (some (.ref a))) H := by
  have sub : ∀ b, Fbd (g.guards L) (env.set i (.own (.lst ds))) (σ.set i (some (.ref a))) m b → Fbd (g.guards (a :: L)) env σ m b := fun b h => own_sub h
  have hs : i < σ.length := by
    rw [← S.len]
    exact hi
  have npr : ¬ (g.guards L).Pr a := fun z => z.elim hpr hL
  refine ⟨by rw [List.length_set, List.length_set]; exact S.len, fun j y hj => ?_, fun j l d e b h1 h2 h3 h4 => ?_, S.cells, fun k xs h => ?_, S.nd, fun b h => ?_, S.frame, S.more, S.tabs, S.has⟩
  · by_cases e : i = j
    · subst e
      rw [List.getElem?_set_self hi] at hj
      cases hj
      exact ⟨a, ws, ds, List.getElem?_set_self hs, rfl, ha, r.less sub, h0, hm, npr⟩
    · rw [List.getElem?_set_ne e] at hj
      have := S.slots j y hj
      cases y with
      | none => trivial
      | val d =>
        obtain ⟨v, h1, h2⟩ := this
        exact ⟨v, by rw [List.getElem?_set_ne e]; exact h1, h2.less sub⟩
      | own d =>
        obtain ⟨b, vs, es, h1, h2, h3, h4, h5, h6, h7⟩ := this
        exact ⟨b, vs, es, by rw [List.getElem?_set_ne e]; exact h1, h2, h3, h4.less sub, h5, h6, fun z => h7 (z.elim .inl fun z => .inr (List.mem_cons_of_mem _ z))⟩
      | bor d =>
        obtain ⟨b, vs, es, h1, h2, h3, h4, h5⟩ := this
        exact ⟨b, vs, es, by rw [List.getElem?_set_ne e]; exact h1, h2, h3, h4.less sub, h5⟩
  · have oth : ∀ {n : Nat} {f : D}, i ≠ n → (env.set i (.own (.lst ds)))[n]? = some (.own f) → (σ.set i (some (.ref a)))[n]? = some (some (.ref b)) → env[n]? = some (.own f) ∧ σ[n]? = some (some (.ref b)) ∧ b ≠ a := fun {n f} e k1 k2 => by
      rw [List.getElem?_set_ne e] at k1 k2
      obtain ⟨c, _, _, z1, _, _, _, _, _, z2⟩ := S.slots n _ k1
      rw [k2] at z1
      cases z1
      exact ⟨k1, k2, fun z => z2 (.inr (by rw [z]; exact List.mem_cons_self))⟩
    by_cases e1 : i = j
    · by_cases e2 : i = l
      · omega
      · subst e1
        rw [List.getElem?_set_self hs] at h3
        cases h3
        exact absurd rfl (oth e2 h2 h4).2.2
    · by_cases e2 : i = l
      · subst e2
        rw [List.getElem?_set_self hs] at h4
        cases h4
        exact absurd rfl (oth e1 h1 h3).2.2
      · obtain ⟨k1, k2, _⟩ := oth e1 h1 h3
        obtain ⟨k3, k4, _⟩ := oth e2 h2 h4
        exact S.apart j l d e b k1 k3 k2 k4
  · obtain ⟨b, vs, h1, h2, h3⟩ := S.cell k xs h
    exact ⟨b, vs, h1, h2, h3.less sub⟩
  · exact S.pr b (h.elim .inl fun z => .inr (List.mem_cons_of_mem _ z))
end
def setV : List Nat → List V → L2.St → L2.St
  | i :: is, v :: vs, σ => setV is vs (σ.set i (some v))
  | _, _, σ => σ
section
variable {K : PySem.W.Frag} {g : Gh} {env env' : Env} {hp hp' : Heap} {m m' : List Addr} {σ σ' : L2.St} {H H' : Hp} {L : List Addr}
/-- the own lists: those there, or of L -/
def OwnIn (env : Env) (σ : L2.St) (L : List Addr) (env' : Env) (σ' : L2.St) : Prop := ∀ a, isOwn env' σ' a → isOwn env σ a ∨ a ∈ L
theorem par_rel : ∀ {ts : List (Bool × Nat)} {vs : List V} {ds : List D} {L : List Addr} {env env' : Env} {σ : L2.St}, RepP K (Fbd (g.guards L) env σ m) m H (ts.map (·.1)) vs ds L → StRel K (g.guards L) env hp m σ H → setPar ts ds env = some env' →
    (∀ a ∈ L, g.H0 a = none ∧ ¬ g.Pr a) → StRel K g env' hp m (setV (ts.map (·.2)) vs σ) H ∧ OwnIn env σ L env' (setV (ts.map (·.2)) vs σ)
  | [], vs, ds, L, env, env', σ, r, S, h, hL => by
    cases r
    obtain rfl := Option.some.inj h
    rw [guards_nil] at S
    exact ⟨S, fun a z => .inl z⟩
  | (false, i) :: ts, vs, ds, L, env, env', σ, r, S, h, hL => by
    cases r with
    | val r rr =>
      simp only [setPar] at h
      split at h
      · cases h
      · rename_i hn
        obtain ⟨S', so⟩ := S.putVal hn r
        rw [← so.fbd] at rr
        obtain ⟨k1, k2⟩ := par_rel rr S' h hL
        exact ⟨k1, fun a z => (k2 a z).imp (so a).mp id⟩
  | (true, i) :: ts, vs, ds, L, env, env', σ, r, S, h, hL => by
    cases r with
    | own h1 h2 h3 h4 rr =>
      simp only [setPar] at h
      split at h
      · rename_i hi
        obtain ⟨z1, z2⟩ := hL _ List.mem_cons_self
        have S' := S.own hi h1 h2 z1 h4 z2 h3
        obtain ⟨k1, k2⟩ := par_rel (rr.less fun b z => own_sub z) S' h fun a ha => hL a (List.mem_cons_of_mem _ ha)
        refine ⟨k1, fun a z => ?_⟩
        rcases k2 a z with ⟨j, d, q1, q2⟩ | q
        · by_cases e : i = j
          · subst e
            rw [List.getElem?_set] at q2
            simp only [if_true] at q2
            split at q2
            · cases q2
              exact .inr List.mem_cons_self
            · cases q2
          · rw [List.getElem?_set_ne e] at q1 q2
            exact .inl ⟨j, d, q1, q2⟩
        · exact .inr (List.mem_cons_of_mem _ q)
      · cases h
theorem setPar_len : ∀ {ts : List (Bool × Nat)} {ds : List D} {env env' : Env}, setPar ts ds env = some env' → ds.length = ts.length
  | [], [], _, _, _ => rfl
  | [], _ :: _, _, _, h => by cases h
  | _ :: _, [], _, _, h => by
    rename_i x ts _ _
    obtain ⟨b, i⟩ := x
    cases b <;> cases h
  | (false, i) :: ts, d :: ds, env, env', h => by
    simp only [setPar] at h
    split at h
    · cases h
    · rw [List.length_cons, List.length_cons, setPar_len h]
  | (true, i) :: ts, d :: ds, env, env', h => by
    cases d <;> simp only [setPar, reduceCtorEq] at h
    split at h
    · rw [List.length_cons, List.length_cons, setPar_len h]
    · cases h
end
/-! ### the values -/
section
variable (K : PySem.W.Frag) (Γ : Nat → List D → Heap → R D)
def tP (fs : List Bool) (cs : List E) : TA := fun σ H Q => ∃ g, ∃ env hp m, StRel K g env hp m σ H ∧ ∃ ds hp', evEs reprL Γ cs env hp = some (.ok ds hp') ∧ (∀ i : Nat, fs[i]? = some true → ∃ es, ds[i]? = some (.lst es)) ∧ 
  ∀ vs L H' m', StRel K (g.guards L) env hp' m' σ H' → Step m H m' H' → RepP K (Fbd (g.guards L) env σ m') m' H' fs vs ds L → (∀ a ∈ L, H a = none) → Q vs H'
variable {K Γ} {X : Cx}
theorem p_nil : PA X [] (tP X.K Γ [] []) := paWeak pa_nil fun σ H Q ⟨g, env, hp, m, S, ds, hp', ev, _, q⟩ => by
  obtain ⟨rfl, rfl⟩ := rok_inj (show some (Out.ok [] hp) = some (.ok ds hp') from ev)
  exact q _ [] _ m (by rw [guards_nil]; exact S) Step.refl .nil fun a ha => by cases ha
theorem p_val {e : Expr} {es : List Expr} {c : E} {cs : List E} {fs : List Bool} (h : ∀ g, PE X e (tE X.K Γ g c)) (hs : PA X es (tP X.K Γ fs cs)) (ns : notStar e = true) : PA X (e :: es) (tP X.K Γ (false :: fs) (c :: cs)) :=
  paWeak (pa_cons (eg h) hs (star_cons ns es X.env)) fun σ H Q ⟨g, env, hp, m, S, ds, hp', ev, hfs, q⟩ => by
    obtain ⟨x, h1, e1, ev⟩ := bind_some (show R.bind (evE reprL Γ c env hp) _ = _ from ev)
    obtain ⟨xs, h2, e2, ev⟩ := bind_some ev
    obtain ⟨rfl, rfl⟩ := rok_inj ev
    refine ⟨g, env, hp, m, S, x, h1, e1, fun v1 H1 m1 S1 st1 r1 => ⟨g, env, h1, m1, S1, xs, h2, e2, fun i hi => hfs (i + 1) hi, fun vs L H2 m2 S2 st2 r2 hL => ?_⟩⟩
    exact q _ L H2 m2 S2 (st1.trans st2) (.val (r1.gsteps S1 st2 hL) r2) fun a ha => st1.fresh (hL a ha)
theorem p_own {e : Expr} {es : List Expr} {c : E} {cs : List E} {fs : List Bool} (h : ∀ g, PE X e (tF X.K Γ g c)) (hs : PA X es (tP X.K Γ fs cs)) (ns : notStar e = true) : PA X (e :: es) (tP X.K Γ (true :: fs) (c :: cs)) :=
  paWeak (pa_cons (te := fun σ H Q => ∃ g, tF X.K Γ g c σ H Q) ⟨fun pins s σ H Q I ⟨g, q⟩ => (h g).run pins s σ H Q I q⟩ hs (star_cons ns es X.env)) fun σ H Q ⟨g, env, hp, m, S, ds, hp', ev, hfs, q⟩ => by
    obtain ⟨x, h1, e1, ev⟩ := bind_some (show R.bind (evE reprL Γ c env hp) _ = _ from ev)
    obtain ⟨xs, h2, e2, ev⟩ := bind_some ev
    obtain ⟨rfl, rfl⟩ := rok_inj ev
    obtain ⟨es, z⟩ := hfs 0 rfl
    obtain rfl := Option.some.inj z
    refine ⟨g, env, hp, m, S, _, h1, e1, ⟨_, rfl⟩, fun ds a vs H1 m1 hd ha S1 st1 hm hv r1 => ⟨g.guard a, env, h1, m1, S1, xs, h2, e2, fun i hi => hfs (i + 1) hi, fun vs L H2 m2 S2 st2 r2 hL => ?_⟩⟩
    obtain rfl : es = ds := by
      cases hd
      rfl
    rw [guards_cons] at S2 r2
    refine q _ (a :: L) H2 m2 S2 (st1.trans st2) (.own (st2.keep _ _ hv hm) ?_ (fun z => ?_) (st2.off hv hm) r2) fun b hb => ?_
    · have := r1.gsteps S1 st2 hL
      rw [guards_cons] at this
      exact this
    · rw [hL a z] at hv
      cases hv
    · obtain rfl | hb := List.mem_cons.mp hb
      · exact ha
      · exact st1.fresh (hL b hb)
end
end Ev
end

section
set_option Elab.async false
set_option linter.all false
set_option maxRecDepth 100000
namespace Ev
open PySem L2 PyProof.Rows
variable [TabList]
/-! ### statements -/
section
variable (K : PySem.W.Frag) (Γ : Nat → List D → Heap → R D)
/-- what is wanted behind, by the evaluator's answer -/
def After (g : Gh) (B : Ends) (env : Env) (σ : L2.St) (m : List Addr) (H : Hp) (fl : Flow) (hp' : Heap) : Prop := match fl with
  | .nx env' => ∀ σ' H' m', StRel K g env' hp' m' σ' H' → SStep env σ m H env' σ' m' H' → B.nx σ' H'
  | .brk env' => ∀ σ' H' m', StRel K g env' hp' m' σ' H' → SStep env σ m H env' σ' m' H' → B.bk σ' H'
  | .cont env' => ∀ σ' H' m', StRel K g env' hp' m' σ' H' → SStep env σ m H env' σ' m' H' → B.ct σ' H'
  | .ret d => ∀ v env' σ' H' m', StRel K g env' hp' m' σ' H' → SStep env σ m H env' σ' m' H' → Rep K (fun a => g.Pr a ∨ a ∈ m') m' H' v d → B.rt v H'
def tS (c : S) : TS := fun B σ H => ∃ g env hp m, StRel K g env hp m σ H ∧ ∃ fl hp', evS reprL Γ c env hp = some (.ok fl hp') ∧ After K g B env σ m H fl hp'
def tSs (cs : List S) : TS := fun B σ H => ∃ g env hp m, StRel K g env hp m σ H ∧ ∃ fl hp', evSs reprL Γ cs env hp = some (.ok fl hp') ∧ After K g B env σ m H fl hp'
def tFg (c : E) : TE := fun σ H Q => ∃ g, tF K Γ g c σ H Q
variable {K Γ} {X : Cx}
theorem After.step {g : Gh} {B : Ends} {env env1 : Env} {σ σ1 : L2.St} {m m1 : List Addr} {H H1 : Hp} {fl : Flow} {hp' : Heap} (s : SStep env σ m H env1 σ1 m1 H1) (h : After K g B env σ m H fl hp') : After K g B env1 σ1 m1 H1 fl hp' := by
  cases fl with
  | nx e => exact fun σ' H' m' S' st => h σ' H' m' S' (s.trans st)
  | brk e => exact fun σ' H' m' S' st => h σ' H' m' S' (s.trans st)
  | cont e => exact fun σ' H' m' S' st => h σ' H' m' S' (s.trans st)
  | ret d => exact fun v e σ' H' m' S' st r => h v e σ' H' m' S' (s.trans st) r
theorem fg {e : Expr} {c : E} (h : ∀ g, PE X e (tF X.K Γ g c)) : PE X e (tFg X.K Γ c) := ⟨fun pins s σ H Q I ⟨g, q⟩ => (h g).run pins s σ H Q I q⟩
theorem psWeak {st : Stmt} {t t' : TS} (h : PS X st t) (i : ∀ B σ H, t' B σ H → t B σ H) : PS X st t' := ⟨fun pins s σ H B I q => h.run pins s σ H B I (i _ _ _ q)⟩
theorem pssWeak {st : List Stmt} {t t' : TS} (h : PSs X st t) (i : ∀ B σ H, t' B σ H → t B σ H) : PSs X st t' := ⟨fun pins s σ H B I q => h.run pins s σ H B I (i _ _ _ q)⟩
/-! blocks -/
theorem ss_nil : PSs X [] (tSs X.K Γ []) := pssWeak pss_nil fun B σ H ⟨g, env, hp, m, S, fl, hp', ev, q⟩ => by
  obtain ⟨rfl, rfl⟩ := rok_inj (show some (Out.ok (Flow.nx env) hp) = some (.ok fl hp') from ev)
  exact q _ _ m S SStep.refl
theorem ss_cons {st : Stmt} {rest : List Stmt} {c : S} {cs : List S} (h : PS X st (tS X.K Γ c)) (hs : PSs X rest (tSs X.K Γ cs)) : PSs X (st :: rest) (tSs X.K Γ (c :: cs)) :=
  pssWeak (pss_cons h hs) fun B σ H ⟨g, env, hp, m, S, fl, hp', ev, q⟩ => by
    obtain ⟨fl1, h1, e1, ev⟩ := bind_some (show R.bind (evS reprL Γ c env hp) _ = _ from ev)
    refine ⟨g, env, hp, m, S, fl1, h1, e1, ?_⟩
    cases fl1 with
    | nx env1 => exact fun σ1 H1 m1 S1 st1 => ⟨g, env1, h1, m1, S1, fl, hp', ev, q.step st1⟩
    | brk env1 =>
      obtain ⟨rfl, rfl⟩ := rok_inj (show some (Out.ok (Flow.brk env1) h1) = some (.ok fl hp') from ev)
      exact q
    | cont env1 =>
      obtain ⟨rfl, rfl⟩ := rok_inj (show some (Out.ok (Flow.cont env1) h1) = some (.ok fl hp') from ev)
      exact q
    | ret d =>
      obtain ⟨rfl, rfl⟩ := rok_inj (show some (Out.ok (Flow.ret d) h1) = some (.ok fl hp') from ev)
      exact q
/-- a ghost statement: no Python text -/
theorem ss_frz {rest : List Stmt} {i : Nat} {cs : List S} (hs : PSs X rest (tSs X.K Γ cs)) : PSs X rest (tSs X.K Γ (.frz i :: cs)) := pssWeak hs fun B σ H ⟨g, env, hp, m, S, fl, hp', ev, q⟩ => by
  obtain ⟨fl1, h1, e1, ev⟩ := bind_some (show R.bind (evS reprL Γ (.frz i) env hp) _ = _ from ev)
  have hw : ∃ d, env[i]? = some (.own d) ∧ fl1 = .nx (env.set i (.val d)) ∧ h1 = hp := by
    simp only [evS] at e1
    split at e1
    · rename_i d hd
      obtain ⟨z1, z2⟩ := rok_inj e1
      exact ⟨d, hd, z1.symm, z2.symm⟩
    · cases e1
  obtain ⟨d, hd, rfl, rfl⟩ := hw
  obtain ⟨a, vs, ds, k1, rfl, k3, k4, k5, k6, k7⟩ := S.slots i _ hd
  have hi : i < env.length := (List.getElem?_eq_some_iff.mp hd).1
  have own : ∀ b, isOwn (env.set i (.val (.lst ds))) σ b ↔ isOwn env σ b ∧ b ≠ a := fun b => by
    constructor
    · rintro ⟨j, e, h1, h2⟩
      by_cases hj : i = j
      · subst hj
        rw [List.getElem?_set_self hi] at h1
        cases h1
      · rw [List.getElem?_set_ne hj] at h1
        refine ⟨⟨j, e, h1, h2⟩, fun z => ?_⟩
        subst z
        exact hj (S.apart i j _ _ b hd h1 k1 h2)
    · rintro ⟨⟨j, e, h1, h2⟩, ne⟩
      refine ⟨j, e, ?_, h2⟩
      have hj : i ≠ j := fun z => by
        subst z
        rw [k1] at h2
        cases h2
        exact ne rfl
      rw [List.getElem?_set_ne hj]
      exact h1
  have sub : ∀ b, Fbd g (env.set i (.val (.lst ds))) σ m b → Fbd g env σ m b := fun b z => z.imp id fun z => z.imp (fun z => ((own b).mp z).1) id
  have S' : StRel X.K g (env.set i (.val (.lst ds))) h1 m σ H := by
    refine ⟨by rw [List.length_set]; exact S.len, fun j y hj => ?_, fun j l d' e b h1 h2 h3 h4 => ?_, S.cells, fun k xs h => ?_, S.nd, S.pr, S.frame, S.more, S.tabs, S.has⟩
    · by_cases e : i = j
      · subst e
        rw [List.getElem?_set_self hi] at hj
        cases hj
        refine ⟨.ref a, k1, .lst k3 (fun z => ?_) (k4.less sub)⟩
        rcases z with z | z | z
        · exact k7 z
        · exact ((own a).mp z).2 rfl
        · exact k6 z
      · rw [List.getElem?_set_ne e] at hj
        have := S.slots j y hj
        cases y with
        | none => trivial
        | val d =>
          obtain ⟨v, h1, h2⟩ := this
          exact ⟨v, h1, h2.less sub⟩
        | own d =>
          obtain ⟨b, vs, es, h1, h2, h3, h4, h5⟩ := this
          exact ⟨b, vs, es, h1, h2, h3, h4.less sub, h5⟩
        | bor d =>
          obtain ⟨b, vs, es, h1, h2, h3, h4, h5⟩ := this
          exact ⟨b, vs, es, h1, h2, h3, h4.less sub, h5⟩
    · have back : ∀ {n : Nat} {f : D}, (env.set i (.val (.lst ds)))[n]? = some (.own f) → env[n]? = some (.own f) := fun {n f} k => by
        by_cases e : i = n
        · subst e
          rw [List.getElem?_set_self hi] at k
          cases k
        · rwa [List.getElem?_set_ne e] at k
      exact S.apart j l d' e b (back h1) (back h2) h3 h4
    · obtain ⟨b, vs, h1, h2, h3⟩ := S.cell k xs h
      exact ⟨b, vs, h1, h2, h3.less sub⟩
  have st : SStep env σ m H (env.set i (.val (.lst ds))) σ m H := ⟨⟨[], by simp, by simp⟩, fun b o h _ n _ => ⟨h, fun z => n ((own b).mp z).1⟩, fun b o h => ⟨o, h⟩, fun _ t => t⟩
  exact ⟨g, _, _, m, S', fl, hp', ev, q.step st⟩
/-! assignments -/
theorem StRel.new {K : PySem.W.Frag} {g : Gh} {env : Env} {hp : Heap} {m : List Addr} {σ : L2.St} {H : Hp} (S : StRel K g env hp m σ H) {b : Addr} (ha : H b = none) : g.H0 b = none ∧ ¬ g.Pr b := by
  refine ⟨?_, fun z => S.pr b z ha⟩
  cases h0 : g.H0 b with
  | none => rfl
  | some o => exact absurd ha (S.has b (by rw [h0]; simp))
theorem asg_reads {t : Tg} {c : E} {B : Ends} {σ : L2.St} {H : Hp} (q : tS X.K Γ (.asg t c) B σ H) : tEg X.K Γ c σ H fun v H1 => gT X.K t v σ H1 B.nx := by
  obtain ⟨g, env, hp, m, S, fl, hp', ev, q⟩ := q
  obtain ⟨d, h1, e1, ev⟩ := bind_some (show R.bind (evE reprL Γ c env hp) _ = _ from ev)
  split at ev
  · rename_i env1 hs
    obtain ⟨rfl, rfl⟩ := rok_inj ev
    refine ⟨g, env, hp, m, S, d, _, e1, fun v H1 m1 S1 st1 r1 => ⟨g, env, _, m1, d, env1, S1, r1, hs, fun σ' S' so _ _ => ?_⟩⟩
    exact q σ' H1 m1 S' ((SStep.of st1 SameOwn.refl).trans (SStep.of Step.refl so))
  · cases ev
theorem s_asg {tg e : Expr} {pos : Pos} {t : Tg} {c : E} (h : ∀ g, PE X e (tE X.K Γ g c)) (hg : PG X tg (gT X.K t)) (hs : swapsWithSole [tg] e pos.line X.env = pure false) (hw : swappedStores [tg] e X.env = pure none)
    (h1 : (assignEach [tg] X.env).map (·.2) = [assign tg X.env]) : PS X (.Assign [tg] e pos) (tS X.K Γ (.asg t c)) := psWeak (ps_asg (eg h) hg hs hw h1) fun _ _ _ q => asg_reads q
/-- one name -/
theorem set_reads {i : Nat} {c : E} {B : Ends} {σ : L2.St} {H : Hp} (q : tS X.K Γ (.asg (.name i) c) B σ H) : tEg X.K Γ c σ H fun v H1 => B.nx (σ.set i (some v)) H1 := by
  obtain ⟨g, env, hp, m, S, d, hp', e1, q⟩ := asg_reads q
  refine ⟨g, env, hp, m, S, d, hp', e1, fun v H1 m1 S1 st1 r1 => ?_⟩
  obtain ⟨g', env', h', m', d', env1, S', r', hs, q⟩ := q v H1 m1 S1 st1 r1
  simp only [setTg] at hs
  split at hs
  · cases hs
  · rename_i hn
    obtain rfl := Option.some.inj hs
    obtain ⟨S2, so⟩ := S'.putVal hn r'
    refine q _ S2 so (fun j hj => ?_) (List.length_set ..)
    rw [List.getElem?_set_ne (fun e => hj (by simp [Tg.slots, e]))]
theorem s_set {i : Nat} {x : Str} {e : Expr} {pos pos' : Pos} {c : E} (hN : X.N.Nodup) (hi : X.N[i]? = some x) (hx : Loc X.env.scope x) (h : ∀ g, PE X e (tE X.K Γ g c)) (hs : swapsWith e (some (.Name x pos')) pos.line X.env = pure false) (hf : X.fn x = true ∨ X.env.scope.names.lookup x = some .local) :
    PS X (.Assign [.Name x pos'] e pos) (tS X.K Γ (.asg (.name i) c)) := psWeak (ps_set hN hi hx (eg h) hs hf) fun _ _ _ q => set_reads q
theorem own_reads {i : Nat} {c : E} {B : Ends} {σ : L2.St} {H : Hp} (q : tS X.K Γ (.par [(true, i)] [c]) B σ H) : tFg X.K Γ c σ H fun v H1 => B.nx (σ.set i (some v)) H1 := by
  obtain ⟨g, env, hp, m, S, fl, hp', ev, q⟩ := q
  obtain ⟨ds, h1, e1, ev⟩ := bind_some (show R.bind (evEs reprL Γ [c] env hp) _ = _ from ev)
  obtain ⟨d, h2, e2, e1⟩ := bind_some (show R.bind (evE reprL Γ c env hp) _ = _ from e1)
  obtain ⟨rfl, rfl⟩ := rok_inj (show some (Out.ok [d] h2) = some (.ok ds h1) from e1)
  split at ev
  · rename_i env1 hs
    obtain ⟨rfl, rfl⟩ := rok_inj ev
    refine ⟨g, env, hp, m, S, d, _, e2, (by cases d <;> first | exact ⟨_, rfl⟩ | cases hs), fun es a vs H1 m1 hd ha S1 st1 hm hv r1 => ?_⟩
    subst hd
    have hL : ∀ b ∈ [a], g.H0 b = none ∧ ¬ g.Pr b := fun b hb => by
      obtain rfl := List.mem_singleton.mp hb
      exact S.new ha
    have S1' : StRel X.K (g.guards [a]) env h2 m1 σ H1 := by
      rw [← guards_cons, guards_nil]
      exact S1
    have r1' : RepP X.K (Fbd (g.guards [a]) env σ m1) m1 H1 [true] [.ref a] [.lst es] [a] := by
      rw [← guards_cons, guards_nil]
      exact .own hv r1 (by simp) hm .nil
    obtain ⟨k1, k2⟩ := par_rel (ts := [(true, i)]) r1' S1' hs hL
    refine q _ H1 m1 k1 ⟨st1.more, fun b o h n no nt => ⟨st1.keep b o h n nt, fun z => ?_⟩, st1.there, st1.tabs⟩
    rcases k2 b z with z | z
    · exact no z
    · obtain rfl := List.mem_singleton.mp z
      rw [ha] at h
      cases h
  · cases ev
theorem s_own {i : Nat} {x : Str} {e : Expr} {pos pos' : Pos} {c : E} (hN : X.N.Nodup) (hi : X.N[i]? = some x) (hx : Loc X.env.scope x) (h : ∀ g, PE X e (tF X.K Γ g c)) (hs : swapsWith e (some (.Name x pos')) pos.line X.env = pure false) (hf : X.fn x = true ∨ X.env.scope.names.lookup x = some .local) :
    PS X (.Assign [.Name x pos'] e pos) (tS X.K Γ (.par [(true, i)] [c])) := psWeak (ps_set hN hi hx (fg h) hs hf) fun _ _ _ q => own_reads q
end
end Ev
end

section
set_option Elab.async false
set_option linter.all false
set_option maxRecDepth 100000
namespace Ev
open PySem L2 PyProof.Rows
variable [TabList]
section
variable {Γ : Nat → List D → Heap → R D} {X : Cx}
/-! several at once -/
theorem RepP.length {K : PySem.W.Frag} {Fb : Addr → Prop} {m : List Addr} {H : Hp} {fs : List Bool} {vs : List V} {ds : List D} {L : List Addr} (r : RepP K Fb m H fs vs ds L) : vs.length = ds.length := by
  induction r with
  | nil => rfl
  | val _ _ ih => simp only [List.length_cons, ih]
  | own _ _ _ _ _ ih => simp only [List.length_cons, ih]
theorem RepP.ext {K : PySem.W.Frag} {Fb : Addr → Prop} {m : List Addr} {H H2 : Hp} (ex : Ext H H2) {fs : List Bool} {vs : List V} {ds : List D} {L : List Addr} (r : RepP K Fb m H fs vs ds L) : RepP K Fb m H2 fs vs ds L := by
  induction r with
  | nil => exact .nil
  | val h _ ih => exact .val (h.ext ex) ih
  | own h1 h2 h3 h4 _ ih => exact .own (ex _ _ h1) (h2.ext ex) h3 h4 ih
theorem setPar_flags : ∀ {ts : List (Bool × Nat)} {ds : List D} {env env' : Env}, setPar ts ds env = some env' → ∀ i : Nat, (ts.map (·.1))[i]? = some true → ∃ es, ds[i]? = some (.lst es)
  | [], _, _, _, _, i, hi => by simp at hi
  | (b, j) :: ts, [], _, _, h, _, _ => by cases b <;> cases h
  | (false, j) :: ts, d :: ds, env, env', h, i, hi => by
    simp only [setPar] at h
    split at h
    · cases h
    · cases i with
      | zero => cases hi
      | succ i => exact setPar_flags h i hi
  | (true, j) :: ts, d :: ds, env, env', h, i, hi => by
    cases d <;> simp only [setPar, reduceCtorEq] at h
    rename_i xs
    split at h
    · cases i with
      | zero => exact ⟨xs, rfl⟩
      | succ i => exact setPar_flags h i hi
    · cases h
theorem par_reads {ts : List (Bool × Nat)} {cs : List E} {B : Ends} {σ : L2.St} {H : Hp} (q : tS X.K Γ (.par ts cs) B σ H) : tP X.K Γ (ts.map (·.1)) cs σ H fun vs H1 => vs.length = ts.length ∧ ∀ H2, Ext H1 H2 → B.nx (setV (ts.map (·.2)) vs σ) H2 := by
  obtain ⟨g, env, hp, m, S, fl, hp', ev, q⟩ := q
  obtain ⟨ds, h1, e1, ev⟩ := bind_some (show R.bind (evEs reprL Γ cs env hp) _ = _ from ev)
  split at ev
  · rename_i env1 hs
    obtain ⟨rfl, rfl⟩ := rok_inj ev
    refine ⟨g, env, hp, m, S, ds, _, e1, setPar_flags hs, fun vs L H1 m1 S1 st1 r1 hL => ⟨?_, fun H2 ex => ?_⟩⟩
    · rw [r1.length, setPar_len hs]
    · have S2 := S1.ext ex
      have r2 := r1.ext ex
      obtain ⟨k1, k2⟩ := par_rel r2 S2 hs fun a ha => S.new (hL a ha)
      have st2 := st1.trans (Step.ext ex)
      refine q _ H2 m1 k1 ⟨st2.more, fun b o h n no nt => ⟨st2.keep b o h n nt, fun z => ?_⟩, st2.there, st2.tabs⟩
      rcases k2 b z with z | z
      · exact no z
      · rw [hL b z] at h
        cases h
  · cases ev
theorem s_par2 {i j : Nat} {x y : Str} {a b : Expr} {px py pt pos : Pos} {kt k2 : Nat} {pt2 : Pos} {f1 f2 : Bool} {cs : List E} (hc : X.calm = true) (hN : X.N.Nodup) (hi : X.N[i]? = some x) (hj : X.N[j]? = some y) (hij : i ≠ j)
    (hx : X.env.scope.names.lookup x = some .local) (hy : X.env.scope.names.lookup y = some .local) (ha : PA X [a, b] (tP X.K Γ [f1, f2] cs))
    (hw : swappedStores [.Tuple [.Name x px, .Name y py] kt pt] (.Tuple [a, b] k2 pt2) X.env = pure (some [x, y])) :
    PS X (.Assign [.Tuple [.Name x px, .Name y py] kt pt] (.Tuple [a, b] k2 pt2) pos) (tS X.K Γ (.par [(f1, i), (f2, j)] cs)) :=
  psWeak (ps_par hc hN hi hj hij hx hy ha hw) fun B σ H q => by
    obtain ⟨g, env, hp, m, S, ds, hp', ev, hf, q⟩ := par_reads q
    refine ⟨g, env, hp, m, S, ds, hp', ev, hf, fun vs L H1 m1 S1 st1 r1 hL => ?_⟩
    obtain ⟨hl, q⟩ := q vs L H1 m1 S1 st1 r1 hL
    match vs, hl with
    | [v, w], _ => exact ⟨v, w, rfl, q H1 (Evl.Ex.refl _)⟩
theorem s_par3 {i j l : Nat} {x y z : Str} {a b c : Expr} {px py pz pt pos : Pos} {kt k2 : Nat} {pt2 : Pos} {f1 f2 f3 : Bool} {cs : List E} (hc : X.calm = true) (hN : X.N.Nodup) (hi : X.N[i]? = some x) (hj : X.N[j]? = some y) (hl : X.N[l]? = some z) (hij : i ≠ j) (hil : i ≠ l) (hjl : j ≠ l)
    (hx : X.env.scope.names.lookup x = some .local) (hy : X.env.scope.names.lookup y = some .local) (hz : X.env.scope.names.lookup z = some .local) (ha : PA X [a, b, c] (tP X.K Γ [f1, f2, f3] cs))
    (hw : swappedStores [.Tuple [.Name x px, .Name y py, .Name z pz] kt pt] (.Tuple [a, b, c] k2 pt2) X.env = pure (some [x, y, z])) :
    PS X (.Assign [.Tuple [.Name x px, .Name y py, .Name z pz] kt pt] (.Tuple [a, b, c] k2 pt2) pos) (tS X.K Γ (.par [(f1, i), (f2, j), (f3, l)] cs)) :=
  psWeak (ps_par3 hc hN hi hj hl hij hil hjl hx hy hz ha hw) fun B σ H q => by
    obtain ⟨g, env, hp, m, S, ds, hp', ev, hf, q⟩ := par_reads q
    refine ⟨g, env, hp, m, S, ds, hp', ev, hf, fun vs L H1 m1 S1 st1 r1 hL => ?_⟩
    obtain ⟨hl, q⟩ := q vs L H1 m1 S1 st1 r1 hL
    match vs, hl with
    | [u, v, w], _ => exact ⟨u, v, w, rfl, q H1 (Evl.Ex.refl _)⟩
/-- names, in their order -/
def gNames (is : List Nat) : TGs := fun vs σ H Q => vs.length = is.length ∧ Q (setV is vs σ) H
theorem gn_nil : PGs X [] (gNames []) := pgsWeak pgs_nil fun vs σ H Q ⟨h, q⟩ => by
  obtain rfl := List.length_eq_zero_iff.mp h
  exact ⟨rfl, q⟩
theorem gn_cons {i : Nat} {x : Str} {pos : Pos} {es : List Expr} {is : List Nat} (nd : X.N.Nodup) (hN : X.N[i]? = some x) (hl : Loc X.env.scope x) (hf : X.fn x = true ∨ X.env.scope.names.lookup x = some .local) (h : PGs X es (gNames is)) : PGs X (.Name x pos :: es) (gNames (i :: is)) :=
  pgsWeak (pgs_cons (pg_name nd hN hl hf) h) fun vs σ H Q ⟨hl, q⟩ => by
    cases vs with
    | nil => cases hl
    | cons v vs => exact ⟨v, vs, rfl, by simpa using hl, q⟩
theorem s_parN {es vs : List Expr} {k k2 : Nat} {p1 p2 pos : Pos} {ts : List (Bool × Nat)} {cs : List E} (hc : X.calm = true) (hl : cs.length ≤ sizeLine) (el : ts.length = cs.length) (ha : PA X vs (tP X.K Γ (ts.map (·.1)) cs)) (hg : PGs X es (gNames (ts.map (·.2))))
    (hn : (assignEach es X.env).length = ts.length) (hst : (assignEach es X.env).findIdx? (·.1) = none)
    (hs : swapsWithSole [.Tuple es k p1] (.Tuple vs k2 p2) pos.line X.env = pure false) (hw : swappedStores [.Tuple es k p1] (.Tuple vs k2 p2) X.env = pure none) (h1 : (assignEach [.Tuple es k p1] X.env).map (·.2) = [assign (.Tuple es k p1) X.env]) :
    PS X (.Assign [.Tuple es k p1] (.Tuple vs k2 p2) pos) (tS X.K Γ (.par ts cs)) :=
  psWeak (ps_asg (pe_tup ha) (pg_tup hc hg hn hst) hs hw h1) fun B σ H q => by
    obtain ⟨g, env, hp, m, S, ds, hp', ev, hf, q⟩ := par_reads q
    refine ⟨g, env, hp, m, S, ds, hp', ev, hf, fun vs L H1 m1 S1 st1 r1 hL => ?_⟩
    obtain ⟨hlen, q⟩ := q vs L H1 m1 S1 st1 r1 hL
    refine ⟨by omega, fun p hp => ⟨p, vs, rfl, ?_, hlen, by rw [List.length_map]; exact hlen, q _ (Evl.Ex.new hp)⟩⟩
    exact .inl (.inl (upd_same ..))
/-! one more statement after another -/
theorem s_pass {pos : Pos} : PS X (.Pass pos) (tS X.K Γ .pass) := psWeak ps_pass fun B σ H ⟨g, env, hp, m, S, fl, hp', ev, q⟩ => by
  obtain ⟨rfl, rfl⟩ := rok_inj (show some (Out.ok (Flow.nx env) hp) = some (.ok fl hp') from ev)
  exact q _ _ m S SStep.refl
theorem s_brk {pos : Pos} : PS X (.Break pos) (tS X.K Γ .brk) := psWeak ps_break fun B σ H ⟨g, env, hp, m, S, fl, hp', ev, q⟩ => by
  obtain ⟨rfl, rfl⟩ := rok_inj (show some (Out.ok (Flow.brk env) hp) = some (.ok fl hp') from ev)
  exact q _ _ m S SStep.refl
theorem s_cont {pos : Pos} : PS X (.Continue pos) (tS X.K Γ .cont) := psWeak ps_continue fun B σ H ⟨g, env, hp, m, S, fl, hp', ev, q⟩ => by
  obtain ⟨rfl, rfl⟩ := rok_inj (show some (Out.ok (Flow.cont env) hp) = some (.ok fl hp') from ev)
  exact q _ _ m S SStep.refl
theorem s_ret {e : Expr} {c : E} {pos : Pos} (h : ∀ g, PE X e (tE X.K Γ g c)) : PS X (.Return (some e) pos) (tS X.K Γ (.ret c)) := psWeak (ps_ret (eg h)) fun B σ H ⟨g, env, hp, m, S, fl, hp', ev, q⟩ => by
  obtain ⟨d, h1, e1, ev⟩ := bind_some (show R.bind (evE reprL Γ c env hp) _ = _ from ev)
  obtain ⟨rfl, rfl⟩ := rok_inj ev
  exact ⟨g, env, hp, m, S, d, _, e1, fun v H1 m1 S1 st1 r1 => q v env σ H1 m1 S1 (SStep.of st1 SameOwn.refl) (r1.less fun a z => z.imp id .inr)⟩
theorem s_ex {e : Expr} {c : E} {pos : Pos} (h : ∀ g, PE X e (tE X.K Γ g c)) (hs : swapsWith e none pos.line X.env = pure false) : PS X (.Expr e pos) (tS X.K Γ (.ex c)) := psWeak (ps_expr (eg h) hs) fun B σ H ⟨g, env, hp, m, S, fl, hp', ev, q⟩ => by
  obtain ⟨d, h1, e1, ev⟩ := bind_some (show R.bind (evE reprL Γ c env hp) _ = _ from ev)
  obtain ⟨rfl, rfl⟩ := rok_inj ev
  exact ⟨g, env, hp, m, S, d, _, e1, fun v H1 m1 S1 st1 r1 => q σ H1 m1 S1 (SStep.of st1 SameOwn.refl)⟩
theorem s_if {t : Expr} {a b : List Stmt} {c : E} {ca cb : List S} {pos : Pos} (ht : ∀ g, PT X t (tT X.K Γ g c)) (ha : PSs X a (tSs X.K Γ ca)) (hb : PSs X b (tSs X.K Γ cb)) : PS X (.If t a b pos) (tS X.K Γ (.ifs c ca cb)) :=
  psWeak (ps_if (Ev.tg ht) ha hb) fun B σ H ⟨g, env, hp, m, S, fl, hp', ev, q⟩ => by
    obtain ⟨d, h1, e1, ev⟩ := bind_some (show R.bind (evE reprL Γ c env hp) _ = _ from ev)
    cases d with
    | bl z =>
      refine ⟨g, env, hp, m, S, z, h1, e1, fun H1 m1 S1 st1 => ?_⟩
      have q1 := q.step (SStep.of st1 (SameOwn.refl (env := env) (σ := σ)))
      cases z with
      | true => exact iteT ⟨g, env, h1, m1, S1, fl, hp', ev, q1⟩
      | false => exact iteF ⟨g, env, h1, m1, S1, fl, hp', ev, q1⟩
    | _ => cases ev
theorem s_aug {i : Nat} {x : Str} {e : Expr} {op : Operator} {o : Op2} {pos pos' : Pos} {c : E} (hN : X.N.Nodup) (hi : X.N[i]? = some x) (hx : Loc X.env.scope x) (h : ∀ g, PE X e (tE X.K Γ g c))
    (ho : PIp X op fun x y H Q => ∃ (Fb : Addr → Prop) (m : List Addr) (d d' r : D), Rep X.K Fb m H x d ∧ Rep X.K Fb m H y d' ∧ augOp o d d' = some r ∧ ∀ v, (∀ Fb m H, Rep X.K Fb m H v r) → Q v H) (hf : X.fn x = true ∨ X.env.scope.names.lookup x = some .local) :
    PS X (.AugAssign (.Name x pos') op e pos) (tS X.K Γ (.aug i o c)) := psWeak (ps_aug hN hi hx (eg h) ho hf) fun B σ H ⟨g, env, hp, m, S, fl, hp', ev, q⟩ => by
  simp only [evS] at ev
  cases hd : Sl.get env[i]? with
  | none =>
    rw [hd] at ev
    cases ev
  | some d =>
    rw [hd] at ev
    obtain ⟨d', h1, e1, ev⟩ := bind_some (show R.bind (evE reprL Γ c env hp) (fun y h => R.bind (lift h (augOp o d y)) fun z h => rok (Flow.nx (env.set i (.val z))) h) = _ from ev)
    obtain ⟨r, h2, e2, ev2⟩ := bind_some ev
    obtain ⟨e3, rfl⟩ := lift_ok e2
    obtain ⟨rfl, rfl⟩ := rok_inj ev2
    have hd' : env[i]? = some (.val d) := by
      cases hx : env[i]? with
      | none =>
        rw [hx] at hd
        cases hd
      | some y =>
        rw [hx] at hd
        cases y <;> first | (cases hd; rfl) | cases hd
    obtain ⟨v, k1, k2⟩ := S.slots i _ hd'
    refine ⟨v, k1, g, env, hp, m, S, d', _, e1, fun u H1 m1 S1 st1 r1 => ?_⟩
    refine ⟨Fbd g env σ m1, m1, d, d', r, k2.step (fun a h => S.at_m h) st1, r1, e3, fun w rw' => ?_⟩
    obtain ⟨S2, so⟩ := S1.putVal (i := i) (d := r) (v := w) (by rw [hd']; exact Bool.false_ne_true) (rw' _ _ _)
    exact q _ H1 m1 S2 ((SStep.of st1 SameOwn.refl).trans (SStep.of Step.refl so))
end
end Ev
end

section
set_option Elab.async false
set_option linter.all false
set_option maxRecDepth 100000
namespace Ev
open PySem L2 PyProof.Rows
variable [TabList]
section
variable {Γ : Nat → List D → Heap → R D} {X : Cx}
/-! for -/
def forTurn (Γ : Nat → List D → Heap → R D) (t : Tg) (body : List S) (x : D) (env : Env) (h : Heap) : R Flow := match setTg t x env with
  | some env => evSs reprL Γ body env h
  | none => none
theorem evS_for {t : Tg} {it : E} {body : List S} {env : Env} {hp hp' : Heap} {fl : Flow} (ev : evS reprL Γ (.for t it body) env hp = some (.ok fl hp')) :
    ∃ s h1 xs, evE reprL Γ it env hp = some (.ok s h1) ∧ walk? s = some xs ∧ forLoop (forTurn Γ t body) xs env h1 = some (.ok fl hp') := by
  obtain ⟨s, h1, e1, ev⟩ := bind_some (show R.bind (evE reprL Γ it env hp) _ = _ from ev)
  cases hw : walk? s with
  | none =>
    rw [hw] at ev
    cases ev
  | some xs =>
    rw [hw] at ev
    exact ⟨s, h1, xs, e1, hw, ev⟩
theorem s_for {tg iter : Expr} {body : List Stmt} {t : Tg} {it : E} {cb : List S} {pos : Pos} (hp : PassesOwn (model X.prog X.w) X.A X.env X.xe) (hc : X.calm = true) (hi : ∀ g, PI X tg iter (tI X.K Γ g true it)) (hg : PG X tg (gT X.K t)) (hb : PSs X body (tSs X.K Γ cb))
    (hs : ∀ x, foldedSetIterable iter X.env x = pure x) : PS X (.For tg iter body [] pos) (tS X.K Γ (.for t it cb)) :=
  psWeak (ps_for hp hc (ig hi) hg hb hs) fun B σ H ⟨g, env, hp, m, S, fl, hp', ev, q⟩ => by
    obtain ⟨s, h1, xs, e1, hw, ev⟩ := evS_for ev
    refine ⟨g, env, hp, m, S, s, h1, xs, e1, hw, fun J ok H1 m1 S1 st1 wk ok1 _ => ?_⟩
    have q1 := q.step (SStep.of st1 (SameOwn.refl (env := env) (σ := σ)))
    refine ⟨fun i μ σ2 H2 => μ = xs.length - i ∧ i ≤ xs.length ∧ ∃ env2 h2 m2, StRel X.K g env2 h2 m2 σ2 H2 ∧ SStep env σ m1 H1 env2 σ2 m2 H2 ∧ ok g env2 σ2 m2 H2 ∧ forLoop (forTurn Γ t cb) (xs.drop i) env2 h2 = some (.ok fl hp'), ⟨xs.length, by simp, Nat.zero_le _, env, h1, m1, S1, SStep.refl, ok1, ev⟩, ?_⟩
    rintro i μ σ2 H2 ⟨rfl, hi, env2, h2, m2, S2, st2, ok2, e2⟩
    by_cases hlt : i < xs.length
    · refine .inr ?_
      obtain ⟨go, yl⟩ := wk.go g env2 h2 σ2 m2 H2 i S2 ok2 hlt
      refine ⟨go, fun σ3 H3 => i + 1 ≤ xs.length ∧ ∃ env3 h3 m3, StRel X.K g env3 h3 m3 σ3 H3 ∧ SStep env σ m1 H1 env3 σ3 m3 H3 ∧ ok g env3 σ3 m3 H3 ∧ forLoop (forTurn Γ t cb) (xs.drop (i + 1)) env3 h3 = some (.ok fl hp'),
        fun σ3 H3 h => ⟨xs.length - (i + 1), by omega, rfl, h⟩, fun x H3 y => ?_⟩
      obtain ⟨ex3, d, hd, rx⟩ := yl x H3 y
      have hdrop : xs.drop i = d :: xs.drop (i + 1) := by
        obtain ⟨hl, rfl⟩ := List.getElem?_eq_some_iff.mp hd
        exact List.drop_eq_getElem_cons hl
      rw [hdrop] at e2
      obtain ⟨fl1, h3, e3, e2⟩ := bind_some (show R.bind (forTurn Γ t cb d env2 h2) _ = _ from e2)
      unfold forTurn at e3
      split at e3
      · rename_i env3 hset
        have S3 : StRel X.K g env2 h2 m2 σ2 H3 := S2.ext ex3
        refine ⟨g, env2, h2, m2, d, env3, S3, rx, hset, fun σ4 S4 so4 _ _ => ⟨g, env3, h2, m2, S4, fl1, h3, e3, ?_⟩⟩
        have st4 : SStep env2 σ2 m2 H2 env3 σ4 m2 H3 := (SStep.of (Step.ext ex3) SameOwn.refl).trans (SStep.of Step.refl so4)
        have fin : ∀ {env5 : Env} {σ5 : L2.St} {H5 : Hp} {m5 : List Addr}, forLoop (forTurn Γ t cb) (xs.drop (i + 1)) env5 h3 = some (.ok fl hp') → StRel X.K g env5 h3 m5 σ5 H5 → SStep env3 σ4 m2 H3 env5 σ5 m5 H5 →
            i + 1 ≤ xs.length ∧ ∃ env3 h3 m3, StRel X.K g env3 h3 m3 σ5 H5 ∧ SStep env σ m1 H1 env3 σ5 m3 H5 ∧ ok g env3 σ5 m3 H5 ∧ forLoop (forTurn Γ t cb) (xs.drop (i + 1)) env3 h3 = some (.ok fl hp') := fun {env5 σ5 H5 m5} e5 S5 st5 =>
          ⟨hlt, env5, h3, m5, S5, st2.trans (st4.trans st5), wk.keep g env2 h2 σ2 m2 H2 env5 σ5 m5 H5 S2 (st4.trans st5) ok2, e5⟩
        cases fl1 with
        | nx env5 => exact fun σ5 H5 m5 S5 st5 => fin e2 S5 st5
        | cont env5 => exact fun σ5 H5 m5 S5 st5 => fin e2 S5 st5
        | brk env5 =>
          obtain ⟨rfl, rfl⟩ := rok_inj (show some (Out.ok (Flow.nx env5) h3) = some (.ok fl hp') from e2)
          exact fun σ5 H5 m5 S5 st5 => q1 σ5 H5 m5 S5 (st2.trans (st4.trans st5))
        | ret d =>
          obtain ⟨rfl, rfl⟩ := rok_inj (show some (Out.ok (Flow.ret d) h3) = some (.ok fl hp') from e2)
          exact fun v env5 σ5 H5 m5 S5 st5 r5 => q1 v env5 σ5 H5 m5 S5 (st2.trans (st4.trans st5)) r5
      · cases e3
    · have hi' : i = xs.length := by omega
      subst hi'
      refine .inl ⟨wk.stop _ _ _ _ _ ok2, ?_⟩
      rw [List.drop_length] at e2
      obtain ⟨rfl, rfl⟩ := rok_inj (show some (Out.ok (Flow.nx env2) h2) = some (.ok fl hp') from e2)
      exact q1 σ2 H2 m2 S2 st2
/-! while -/
inductive RunW (f : Env → Heap → R (Sum Env Flow)) : Nat → Env → Heap → Flow → Heap → Prop
  | stop {n env h fl h'} : f env h = some (.ok (.inr fl) h') → RunW f n env h fl h'
  | more {n env h env1 h1 fl h'} : f env h = some (.ok (.inl env1) h1) → RunW f n env1 h1 fl h' → RunW f (n + 1) env h fl h'
theorem loopW_run {f : Env → Heap → R (Sum Env Flow)} {env : Env} {h h' : Heap} {fl : Flow} (e : loopW f env h = some (.ok fl h')) : ∃ n, RunW f n env h fl h' := by
  refine loopW.partial_correctness f (fun env h o => ∀ fl h', o = .ok fl h' → ∃ n, RunW f n env h fl h') (fun lp ih env h o ho fl h' eo => ?_) env h (.ok fl h') e fl h' rfl
  subst eo
  cases hf : f env h with
  | none =>
    rw [hf] at ho
    cases ho
  | some o =>
    rw [hf] at ho
    cases o with
    | err c fs h => cases ho
    | ok s h1 =>
      cases s with
      | inr fl1 =>
        cases ho
        exact ⟨0, .stop hf⟩
      | inl env1 =>
        obtain ⟨n, r⟩ := ih env1 h1 _ ho fl h' rfl
        exact ⟨n + 1, .more hf r⟩
def whileTurn (Γ : Nat → List D → Heap → R D) (c : E) (body : List S) (env : Env) (h : Heap) : R (Sum Env Flow) := R.bind (evE reprL Γ c env h) fun x h => match x with
    | .bl true => R.bind (evSs reprL Γ body env h) fun fl h => match fl with
      | .nx env => rok (.inl env) h
      | .cont env => rok (.inl env) h
      | .brk env => rok (.inr (.nx env)) h
      | .ret d => rok (.inr (.ret d)) h
    | .bl false => rok (.inr (.nx env)) h
    | _ => none
theorem s_while {t : Expr} {body : List Stmt} {c : E} {cb : List S} {pos : Pos} (hp : PassesOwn (model X.prog X.w) X.A X.env X.xe) (ht : ∀ g, PT X t (tT X.K Γ g c)) (hb : PSs X body (tSs X.K Γ cb)) : PS X (.While t body [] pos) (tS X.K Γ (.whil c cb)) :=
  psWeak (ps_while hp (Ev.tg ht) hb) fun B σ H ⟨g, env, hp, m, S, fl, hp', ev, q⟩ => by
    obtain ⟨n, run⟩ := loopW_run (f := whileTurn Γ c cb) (show loopW (whileTurn Γ c cb) env hp = some (.ok fl hp') from ev)
    refine ⟨fun μ σ2 H2 => ∃ env2 h2 m2, StRel X.K g env2 h2 m2 σ2 H2 ∧ SStep env σ m H env2 σ2 m2 H2 ∧ RunW (whileTurn Γ c cb) μ env2 h2 fl hp', ⟨n, env, hp, m, S, SStep.refl, run⟩, ?_⟩
    rintro μ σ2 H2 ⟨env2, h2, m2, S2, st2, run⟩
    have key : ∃ z h3, evE reprL Γ c env2 h2 = some (.ok (.bl z) h3) := by
      have : ∃ o h4, whileTurn Γ c cb env2 h2 = some (.ok o h4) := by
        cases run with
        | stop e => exact ⟨_, _, e⟩
        | more e _ => exact ⟨_, _, e⟩
      obtain ⟨o, h4, e⟩ := this
      obtain ⟨x, h3, e3, e⟩ := bind_some (show R.bind (evE reprL Γ c env2 h2) _ = _ from e)
      cases x with
      | bl z => exact ⟨z, h3, e3⟩
      | _ => cases e
    obtain ⟨z, h3, e3⟩ := key
    refine ⟨g, env2, h2, m2, S2, z, h3, e3, fun H3 m3 S3 st3 => ?_⟩
    have st' : SStep env2 σ2 m2 H2 env2 σ2 m3 H3 := SStep.of st3 SameOwn.refl
    cases z with
    | false =>
      refine iteF ?_
      have hw : whileTurn Γ c cb env2 h2 = some (.ok (.inr (.nx env2)) h3) := by
        unfold whileTurn
        rw [e3]
        rfl
      cases run with
      | stop e =>
        rw [hw] at e
        cases e
        exact q σ2 H3 m3 S3 (st2.trans st')
      | more e _ =>
        rw [hw] at e
        cases e
    | true =>
      refine iteT ⟨fun σ5 H5 => ∃ μ', μ' < μ ∧ ∃ env5 h5 m5, StRel X.K g env5 h5 m5 σ5 H5 ∧ SStep env σ m H env5 σ5 m5 H5 ∧ RunW (whileTurn Γ c cb) μ' env5 h5 fl hp', fun σ' H' h => h, ?_⟩
      have hw : whileTurn Γ c cb env2 h2 = R.bind (evSs reprL Γ cb env2 h3) fun fl h => match fl with
          | .nx env => rok (.inl env) h
          | .cont env => rok (.inl env) h
          | .brk env => rok (.inr (.nx env)) h
          | .ret d => rok (.inr (.ret d)) h := by
        unfold whileTurn
        rw [e3]
        rfl
      have hb : ∃ fl1 h4, evSs reprL Γ cb env2 h3 = some (.ok fl1 h4) := by
        have : ∃ o h4, whileTurn Γ c cb env2 h2 = some (.ok o h4) := by
          cases run with
          | stop e => exact ⟨_, _, e⟩
          | more e _ => exact ⟨_, _, e⟩
        obtain ⟨o, h4, e⟩ := this
        rw [hw] at e
        obtain ⟨fl1, h5, e5, _⟩ := bind_some e
        exact ⟨fl1, h5, e5⟩
      obtain ⟨fl1, h4, e4⟩ := hb
      rw [e4] at hw
      refine ⟨g, env2, h3, m3, S3, fl1, h4, e4, ?_⟩
      have fin : ∀ {env5 : Env}, whileTurn Γ c cb env2 h2 = some (.ok (.inl env5) h4) → ∀ σ5 H5 m5, StRel X.K g env5 h4 m5 σ5 H5 → SStep env2 σ2 m3 H3 env5 σ5 m5 H5 →
          ∃ μ', μ' < μ ∧ ∃ env5 h5 m5, StRel X.K g env5 h5 m5 σ5 H5 ∧ SStep env σ m H env5 σ5 m5 H5 ∧ RunW (whileTurn Γ c cb) μ' env5 h5 fl hp' := fun {env5} hw σ5 H5 m5 S5 st5 => by
        cases run with
        | stop e =>
          rw [hw] at e
          cases e
        | more e r =>
          rw [hw] at e
          cases e
          exact ⟨_, Nat.lt_succ_self _, env5, h4, m5, S5, st2.trans (st'.trans st5), r⟩
      cases fl1 with
      | nx env5 => exact fin hw
      | cont env5 => exact fin hw
      | brk env5 =>
        have hw : whileTurn Γ c cb env2 h2 = some (.ok (.inr (.nx env5)) h4) := hw
        cases run with
        | stop e =>
          rw [hw] at e
          cases e
          exact fun σ5 H5 m5 S5 st5 => q σ5 H5 m5 S5 (st2.trans (st'.trans st5))
        | more e _ =>
          rw [hw] at e
          cases e
      | ret d =>
        have hw : whileTurn Γ c cb env2 h2 = some (.ok (.inr (.ret d)) h4) := hw
        cases run with
        | stop e =>
          rw [hw] at e
          cases e
          exact fun v env5 σ5 H5 m5 S5 st5 r5 => q v env5 σ5 H5 m5 S5 (st2.trans (st'.trans st5)) r5
        | more e _ =>
          rw [hw] at e
          cases e
end
end Ev
end

section
set_option Elab.async false
set_option linter.all false
set_option maxRecDepth 100000
namespace Ev
open PySem L2 PyProof.Rows
variable [TabList]
/-! ### lists that change -/
section
variable {K : PySem.W.Frag} {g : Gh} {env env' : Env} {hp hp' : Heap} {m m' : List Addr} {σ σ' : L2.St} {H H' : Hp}
theorem Bor.updIn {a b : Addr} {o : HO} {vs : List V} (hw : b = a → a ∉ m → SqL K (fun _ => none) b vs) (hm : a ∈ m ∨ a ∉ m) (h : Bor K m H b vs) : Bor K m (upd H a o) b vs := by
  by_cases e : b = a
  · rcases hm with hm | hm
    · rcases h with ⟨_, n⟩ | h
      · exact absurd (e ▸ hm) n
      · exact .inr h
    · exact .inr (hw e hm)
  · rcases h with ⟨h | ⟨o', h⟩, n⟩ | h
    · exact .inl ⟨.inl (by rw [upd_ne e]; exact h), n⟩
    · exact .inl ⟨.inr ⟨o', by rw [upd_ne e]; exact h⟩, n⟩
    · exact .inr h
/-- an own list changes -/
theorem StRel.ownUpd {i : Nat} {a : Addr} {ds ds' : List D} {vs' : List V} (S : StRel K g env hp m σ H) (hd : env[i]? = some (.own (.lst ds))) (hs : σ[i]? = some (some (.ref a))) (r : RepL K (Fbd g env σ m) m H vs' ds') :
    StRel K g (env.set i (.own (.lst ds'))) hp m σ (upd H a (.lst vs')) ∧ SStep env σ m H (env.set i (.own (.lst ds'))) σ m (upd H a (.lst vs')) := by
  obtain ⟨a', vs, ds0, k1, k2, k3, k4, k5, k6, k7⟩ := S.slots i _ hd
  rw [hs] at k1
  cases k1
  cases k2
  have hi : i < env.length := (List.getElem?_eq_some_iff.mp hd).1
  have hf : Fbd g env σ m a := .inr (.inl ⟨i, _, hd, hs⟩)
  have own : ∀ b, isOwn (env.set i (.own (.lst ds'))) σ b ↔ isOwn env σ b := fun b => by
    constructor
    · rintro ⟨j, e, h1, h2⟩
      by_cases hj : i = j
      · subst hj
        exact ⟨i, _, hd, h2⟩
      · rw [List.getElem?_set_ne hj] at h1
        exact ⟨j, e, h1, h2⟩
    · rintro ⟨j, e, h1, h2⟩
      by_cases hj : i = j
      · subst hj
        exact ⟨i, _, List.getElem?_set_self hi, h2⟩
      · exact ⟨j, e, by rw [List.getElem?_set_ne hj]; exact h1, h2⟩
  have fb : Fbd g (env.set i (.own (.lst ds'))) σ m = Fbd g env σ m := SameOwn.fbd own
  refine ⟨⟨by rw [List.length_set]; exact S.len, fun j y hj => ?_, fun j l d e b h1 h2 h3 h4 => ?_, S.cells, fun k xs h => ?_, S.nd, fun b h => ?_, fun b o h n nt => ?_, S.more, tabs_upd S.tabs (.inr ⟨_, k3⟩), fun b h => has_upd (S.has b h)⟩, ⟨⟨[], by simp, by simp⟩, fun b o h n no nt => ⟨?_, fun z => no ((own b).mp z)⟩, fun b o h => ?_, fun T t => tabs_upd t (.inr ⟨_, k3⟩)⟩⟩
  · by_cases e : i = j
    · subst e
      rw [List.getElem?_set_self hi] at hj
      cases hj
      exact ⟨a, vs', ds', hs, rfl, upd_same .., by rw [fb]; exact r.updIn k3 hf, k5, k6, k7⟩
    · rw [List.getElem?_set_ne e] at hj
      have := S.slots j y hj
      cases y with
      | none => trivial
      | val d =>
        obtain ⟨v, h1, h2⟩ := this
        exact ⟨v, h1, by rw [fb]; exact h2.updIn k3 hf⟩
      | own d =>
        obtain ⟨b, vs, es, h1, h2, h3, h4, h5, h6, h7⟩ := this
        have ne : b ≠ a := fun z => e (S.apart i j _ d a hd hj hs (z ▸ h1))
        exact ⟨b, vs, es, h1, h2, by rw [upd_ne ne]; exact h3, by rw [fb]; exact h4.updIn k3 hf, h5, h6, h7⟩
      | bor d =>
        obtain ⟨b, vs, es, h1, h2, h3, h4, h5⟩ := this
        exact ⟨b, vs, es, h1, h2, h3.updIn (fun e _ => h5 (e ▸ k5)) (.inr k6), by rw [fb]; exact h4.updIn k3 hf, h5⟩
  · have back : ∀ {n : Nat} {f : D}, (env.set i (.own (.lst ds')))[n]? = some (.own f) → ∃ f', env[n]? = some (.own f') := fun {n f} k => by
      by_cases e : i = n
      · subst e
        exact ⟨_, hd⟩
      · rw [List.getElem?_set_ne e] at k
        exact ⟨_, k⟩
    obtain ⟨d', h1⟩ := back h1
    obtain ⟨e', h2⟩ := back h2
    exact S.apart j l d' e' b h1 h2 h3 h4
  · obtain ⟨b, vs, h1, h2, h3⟩ := S.cell k xs h
    have ne : b ≠ a := fun z => k6 (z ▸ List.mem_of_getElem? h1)
    exact ⟨b, vs, h1, by rw [upd_ne ne]; exact h2, by rw [fb]; exact h3.updIn k3 hf⟩
  · by_cases e : b = a
    · rw [e, upd_same]
      simp
    · rw [upd_ne e]
      exact S.pr b h
  · have ne : b ≠ a := fun z => by
      rw [z, k5] at h
      cases h
    rw [upd_ne ne]
    exact S.frame b o h n nt
  · have ne : b ≠ a := fun z => no (z ▸ ⟨i, _, hd, hs⟩)
    rw [upd_ne ne]
    exact h
  · by_cases e : b = a
    · rw [e, upd_same]
      exact ⟨_, rfl⟩
    · rw [upd_ne e]
      exact ⟨o, h⟩
/-- a cell changes -/
theorem StRel.cellUpd {k : Nat} {a : Addr} {xs ds' : List D} {vs' : List V} (S : StRel K g env hp m σ H) (hk : hp[k]? = some xs) (ha : m[k]? = some a) (r : RepL K (Fbd g env σ m) m H vs' ds') :
    StRel K g env (hp.set k ds') m σ (upd H a (.lst vs')) ∧ Step m H m (upd H a (.lst vs')) := by
  obtain ⟨a', vs, k1, k3, k4⟩ := S.cell k xs hk
  rw [ha] at k1
  cases k1
  have hm : a ∈ m := List.mem_of_getElem? ha
  have hf : Fbd g env σ m a := .inr (.inr hm)
  have hl : k < hp.length := (List.getElem?_eq_some_iff.mp hk).1
  refine ⟨⟨S.len, fun j y hj => ?_, S.apart, by rw [List.length_set]; exact S.cells, fun l ys h => ?_, S.nd, fun b h => ?_, fun b o h n nt => ?_, S.more, tabs_upd S.tabs (.inr ⟨_, k3⟩), fun b h => has_upd (S.has b h)⟩, ⟨⟨[], by simp, by simp⟩, fun b o h n nt => ?_, fun b o h => ?_, fun T t => tabs_upd t (.inr ⟨_, k3⟩)⟩⟩
  · have := S.slots j y hj
    cases y with
    | none => trivial
    | val d =>
      obtain ⟨v, h1, h2⟩ := this
      exact ⟨v, h1, h2.updIn k3 hf⟩
    | own d =>
      obtain ⟨b, vs, es, h1, h2, h3, h4, h5, h6, h7⟩ := this
      have ne : b ≠ a := fun z => h6 (z ▸ hm)
      exact ⟨b, vs, es, h1, h2, by rw [upd_ne ne]; exact h3, h4.updIn k3 hf, h5, h6, h7⟩
    | bor d =>
      obtain ⟨b, vs, es, h1, h2, h3, h4, h5⟩ := this
      exact ⟨b, vs, es, h1, h2, h3.updIn (fun _ n => absurd hm n) (.inl hm), h4.updIn k3 hf, h5⟩
  · by_cases e : k = l
    · subst e
      rw [List.getElem?_set_self hl] at h
      cases h
      exact ⟨a, vs', ha, upd_same .., r.updIn k3 hf⟩
    · rw [List.getElem?_set_ne e] at h
      obtain ⟨b, vs, h1, h2, h3⟩ := S.cell l ys h
      have ne : b ≠ a := fun z => by
        subst z
        obtain ⟨p1, p2⟩ := List.getElem?_eq_some_iff.mp ha
        obtain ⟨q1, q2⟩ := List.getElem?_eq_some_iff.mp h1
        exact e ((List.getElem_inj S.nd).mp (p2.trans q2.symm))
      exact ⟨b, vs, h1, by rw [upd_ne ne]; exact h2, h3.updIn k3 hf⟩
  · by_cases e : b = a
    · rw [e, upd_same]
      simp
    · rw [upd_ne e]
      exact S.pr b h
  · have ne : b ≠ a := fun z => by
      subst z
      obtain ⟨r', e, f⟩ := S.more
      rw [e] at hm
      obtain q | q := List.mem_append.mp hm
      · exact n q
      · rw [f b q] at h
        cases h
    rw [upd_ne ne]
    exact S.frame b o h n nt
  · have ne : b ≠ a := fun z => n (z ▸ hm)
    rw [upd_ne ne]
    exact h
  · by_cases e : b = a
    · rw [e, upd_same]
      exact ⟨_, rfl⟩
    · rw [upd_ne e]
      exact ⟨o, h⟩
/-- a list becomes a cell -/
theorem StRel.newCell {a : Addr} {vs : List V} {ds : List D} (S : StRel K (g.guard a) env hp m σ H) (ha : H a = some (.lst vs)) (r : RepL K (Fbd (g.guard a) env σ m) m H vs ds) (hm : a ∉ m) (h0 : g.H0 a = none) (hpr : ¬ g.Pr a) :
    StRel K g env (hp ++ [ds]) (m ++ [a]) σ H := by
  have fb : ∀ b, Fbd g env σ (m ++ [a]) b → Fbd (g.guard a) env σ m b := fun b z => by
    rcases z with z | z | z
    · exact .inl (.inl z)
    · exact .inr (.inl z)
    · rcases List.mem_append.mp z with z | z
      · exact .inr (.inr z)
      · exact .inl (.inr (List.mem_singleton.mp z))
  have get : ∀ {k : Nat} {b : Addr}, m[k]? = some b → (m ++ [a])[k]? = some b := fun {k b} h => by
    rw [List.getElem?_append_left (List.getElem?_eq_some_iff.mp h).1]
    exact h
  have mv : ∀ {v : V} {d : D}, Rep K (Fbd (g.guard a) env σ m) m H v d → Rep K (Fbd g env σ (m ++ [a])) (m ++ [a]) H v d := fun {v d} r => r.move (fun _ _ h => h) (fun b _ h n => ⟨h, fun z => n (fb b z)⟩) fun _ _ h => get h
  have mvL : ∀ {v : List V} {d : List D}, RepL K (Fbd (g.guard a) env σ m) m H v d → RepL K (Fbd g env σ (m ++ [a])) (m ++ [a]) H v d := fun {v d} r => r.move (fun _ _ h => h) (fun b _ h n => ⟨h, fun z => n (fb b z)⟩) fun _ _ h => get h
  refine ⟨S.len, fun j y hj => ?_, S.apart, by rw [List.length_append, List.length_append, S.cells]; rfl, fun l ys h => ?_, ?_, fun b h => S.pr b (.inl h), S.frame, ?_, S.tabs, S.has⟩
  · have := S.slots j y hj
    cases y with
    | none => trivial
    | val d =>
      obtain ⟨v, h1, h2⟩ := this
      exact ⟨v, h1, mv h2⟩
    | own d =>
      obtain ⟨b, vs, es, h1, h2, h3, h4, h5, h6, h7⟩ := this
      refine ⟨b, vs, es, h1, h2, h3, mvL h4, h5, fun z => ?_, fun z => h7 (.inl z)⟩
      rcases List.mem_append.mp z with z | z
      · exact h6 z
      · exact h7 (.inr (List.mem_singleton.mp z))
    | bor d =>
      obtain ⟨b, vs, es, h1, h2, h3, h4, h5⟩ := this
      refine ⟨b, vs, es, h1, h2, ?_, mvL h4, h5⟩
      by_cases e : b = a
      · exact .inr (h5 (e ▸ h0))
      · rcases h3 with ⟨h, n⟩ | h
        · exact .inl ⟨h, fun z => (List.mem_append.mp z).elim n fun z => e (List.mem_singleton.mp z)⟩
        · exact .inr h
  · by_cases e : l < hp.length
    · rw [List.getElem?_append_left e] at h
      obtain ⟨b, vs, h1, h2, h3⟩ := S.cell l ys h
      exact ⟨b, vs, get h1, h2, mvL h3⟩
    · have hl : l = hp.length := by
        have := (List.getElem?_eq_some_iff.mp h).1
        rw [List.length_append] at this
        simp at this
        omega
      subst hl
      rw [List.getElem?_append_right (Nat.le_refl _), Nat.sub_self] at h
      cases h
      exact ⟨a, vs, by rw [← S.cells, List.getElem?_append_right (Nat.le_refl _), Nat.sub_self]; rfl, ha, mvL r⟩
  · rw [List.nodup_append]
    exact ⟨S.nd, by simp, fun x hx y hy e => hm (by rw [List.mem_singleton.mp hy] at e; exact e ▸ hx)⟩
  · obtain ⟨r', e, f⟩ := S.more
    refine ⟨r' ++ [a], by rw [e]; simp [Gh.guard], fun b hb => ?_⟩
    obtain hb | hb := List.mem_append.mp hb
    · exact f b hb
    · rw [List.eq_of_mem_singleton hb]
      exact h0
theorem Step.grow {a : Addr} (s : Step m H m' H') (ha : H a = none) : Step m H (m' ++ [a]) H' := by
  obtain ⟨⟨r, e, f⟩, k, t, u⟩ := s
  refine ⟨⟨r ++ [a], by rw [e]; simp, fun b hb => ?_⟩, fun b o h n nt => k b o h n nt, t, u⟩
  obtain hb | hb := List.mem_append.mp hb
  · exact f b hb
  · rw [List.eq_of_mem_singleton hb]
    exact ha
end
section
variable {Γ : Nat → List D → Heap → R D} {X : Cx} {g : Gh}
theorem e_cell {e : Expr} {c : E} (h : PE X e (tF X.K Γ g c)) : PE X e (tE X.K Γ g (.cell c)) := peWeak h fun σ H Q ⟨env, hp, m, S, d, hp', ev, q⟩ => by
  obtain ⟨x, h1, e1, ev⟩ := bind_some (show R.bind (evE reprL Γ c env hp) _ = _ from ev)
  cases x with
  | lst xs =>
    obtain ⟨rfl, rfl⟩ := rok_inj ev
    refine ⟨env, hp, m, S, _, h1, e1, ⟨_, rfl⟩, fun ds a vs H1 m1 hd ha S1 st1 hm hv r1 => ?_⟩
    cases hd
    obtain ⟨z1, z2⟩ := S.new ha
    refine q _ H1 (m1 ++ [a]) (S1.newCell hv r1 hm z1 z2) (st1.grow ha) (.ref ?_)
    rw [← S1.cells, List.getElem?_append_right (Nat.le_refl _), Nat.sub_self]
    rfl
  | _ => cases ev
theorem e_pop {e : Expr} {c : E} {apos cpos : Pos} (h : PE X e (tE X.K Γ g c)) (hbase : attributeBase e "pop" X.env (eval e X.env) = eval e X.env) (hline : (apos.endLine == cpos.line) = true) : PE X (.Call (.Attribute e "pop" apos) [] [] cpos) (tE X.K Γ g (.pop c)) :=
  peWeak (pe_bm0 PySem.F.plainAttrs_list PySem.F.slot_list_pop PySem.F.type_list_pop mt_pop h hbase hline) fun σ H Q ⟨env, hp, m, S, d, hp', ev, q⟩ => by
    obtain ⟨x, h1, e1, ev⟩ := bind_some (show R.bind (evE reprL Γ c env hp) _ = _ from ev)
    cases x with
    | ref k =>
      have hw : ∃ xs y, h1[k]? = some xs ∧ xs.getLast? = some y ∧ d = y ∧ hp' = h1.set k xs.dropLast := by
        simp only at ev
        split at ev
        · rename_i xs hk
          split at ev
          · rename_i y hy
            obtain ⟨z1, z2⟩ := rok_inj ev
            exact ⟨xs, y, hk, hy, z1.symm, z2.symm⟩
          · cases ev
        · cases ev
      obtain ⟨xs, y, hk, hy, rfl, rfl⟩ := hw
      refine ⟨env, hp, m, S, _, h1, e1, fun v H1 m1 S1 st1 r1 => ?_⟩
      cases r1 with
      | ref hm =>
        rename_i a
        obtain ⟨a', vs, k1, k2, k3⟩ := S1.cell k xs hk
        rw [hm] at k1
        cases k1
        have hlen := k3.length
        have hy' : xs[xs.length - 1]? = some d := by rw [← List.getLast?_eq_getElem?]; exact hy
        obtain ⟨w, hw, rw'⟩ := k3.get hy'
        rw [← hlen] at hw
        have rd : RepL X.K (Fbd g env σ m1) m1 H1 vs.dropLast xs.dropLast := by
          rw [List.dropLast_eq_take, List.dropLast_eq_take, hlen]
          exact k3.take _
        obtain ⟨S2, st2⟩ := S1.cellUpd hk hm rd
        refine ⟨.inl ⟨rfl, vs, .inl (.inl k2)⟩, a, vs, w, rfl, rfl, k2, hw, ?_⟩
        exact q _ _ m1 S2 (st1.trans st2) (rw'.updIn k2 (.inr (.inr (List.mem_of_getElem? hm))))
    | _ => cases ev
theorem s_boxApp {o e : Expr} {b c : E} {apos cpos pos : Pos} (ho : ∀ g, PE X o (tE X.K Γ g b)) (he : ∀ g, PE X e (tE X.K Γ g c)) (ns : notStar e = true) (hbase : attributeBase o "append" X.env (eval o X.env) = eval o X.env) (hline : (apos.endLine == cpos.line) = true)
    (hfew : ((backTo cpos (starEach [e] X.env)).all (fun x => !x.1) && (backToKw cpos (keywordEach [] X.env)).all (fun x => x.1.isSome) && decide ([e].length + ([] : List Keyword).length + (if ([] : List Keyword).isEmpty then 0 else 1) < 30)) = true) :
    PS X (.Expr (.Call (.Attribute o "append" apos) [e] [] cpos) pos) (tS X.K Γ (.boxApp b c)) :=
  psWeak (ps_expr (pe_bm PySem.F.plainAttrs_list PySem.F.slot_list_append PySem.F.type_list_append mt_append (eg ho) (pa_cons (eg he) pa_nil (star_cons ns [] X.env)) hbase hfew hline (star_cons ns [] X.env) rfl)) fun B σ H ⟨g, env, hp, m, S, fl, hp', ev, q⟩ => by
    obtain ⟨x, h1, e1, ev⟩ := bind_some (show R.bind (evE reprL Γ b env hp) _ = _ from ev)
    obtain ⟨d, h2, e2, ev⟩ := bind_some ev
    cases x with
    | ref k =>
      have hw : ∃ xs, h2[k]? = some xs ∧ xs.length < LIM ∧ fl = .nx env ∧ hp' = h2.set k (xs ++ [d]) := by
        simp only at ev
        split at ev
        · rename_i xs hk
          split at ev
          · rename_i hl
            obtain ⟨z1, z2⟩ := rok_inj ev
            exact ⟨xs, hk, hl, z1.symm, z2.symm⟩
          · cases ev
        · cases ev
      obtain ⟨xs, hk, hl, rfl, rfl⟩ := hw
      refine ⟨g, env, hp, m, S, _, h1, e1, fun v H1 m1 S1 st1 r1 => ?_⟩
      cases r1 with
      | ref hm =>
        rename_i a
        have hin : a ∈ m1 := List.mem_of_getElem? hm
        obtain ⟨ws, hws⟩ := S1.at_m hin
        refine ⟨.inl ⟨rfl, ws, .inl (.inl hws)⟩, g, env, h1, m1, S1, d, h2, e2, fun v H2 m2 S2 st2 r2 => ?_⟩
        obtain ⟨a', vs, k1, k2, k3⟩ := S2.cell k xs hk
        rw [st2.get hm] at k1
        cases k1
        obtain ⟨S3, st3⟩ := S2.cellUpd hk (st2.get hm) (k3.append (.cons r2 .nil))
        refine ⟨a, vs, v, rfl, rfl, k2, by rw [k3.length, ← LIM_eq]; exact hl, ?_⟩
        exact q σ _ m2 S3 (SStep.of ((st1.trans st2).trans st3) SameOwn.refl)
    | _ => cases ev
theorem s_app {i : Nat} {x : Str} {e : Expr} {c : E} {p apos cpos pos : Pos} (hN : X.N[i]? = some x) (hv : Vis X.env.scope x) (hd : (x == ("__debug__" : Str)) = false) (hcd : (x == ("__classdict__" : Str)) = false) (he : ∀ g, PE X e (tE X.K Γ g c)) (ns : notStar e = true)
    (hbase : attributeBase (.Name x p) "append" X.env (eval (.Name x p) X.env) = eval (.Name x p) X.env) (hline : (apos.endLine == cpos.line) = true)
    (hfew : ((backTo cpos (starEach [e] X.env)).all (fun x => !x.1) && (backToKw cpos (keywordEach [] X.env)).all (fun x => x.1.isSome) && decide ([e].length + ([] : List Keyword).length + (if ([] : List Keyword).isEmpty then 0 else 1) < 30)) = true) :
    PS X (.Expr (.Call (.Attribute (.Name x p) "append" apos) [e] [] cpos) pos) (tS X.K Γ (.app i c)) :=
  psWeak (ps_expr (pe_bm PySem.F.plainAttrs_list PySem.F.slot_list_append PySem.F.type_list_append mt_append (pe_var hN hv hd hcd) (pa_cons (eg he) pa_nil (star_cons ns [] X.env)) hbase hfew hline (star_cons ns [] X.env) rfl)) fun B σ H ⟨g, env, hp, m, S, fl, hp', ev, q⟩ => by
    obtain ⟨d, h2, e2, ev⟩ := bind_some (show R.bind (evE reprL Γ c env hp) _ = _ from ev)
    have hw : ∃ xs, env[i]? = some (.own (.lst xs)) ∧ xs.length < LIM ∧ fl = .nx (env.set i (.own (.lst (xs ++ [d])))) ∧ hp' = h2 := by
      split at ev
      · rename_i xs hk
        split at ev
        · rename_i hl
          obtain ⟨z1, z2⟩ := rok_inj ev
          exact ⟨xs, hk, hl, z1.symm, z2.symm⟩
        · cases ev
      · cases ev
    obtain ⟨xs, hk, hl, rfl, rfl⟩ := hw
    obtain ⟨a, vs0, ds0, k1, _, k3, _⟩ := S.slots i _ hk
    refine ⟨_, k1, .inl ⟨rfl, vs0, .inl (.inl k3)⟩, g, env, hp, m, S, d, _, e2, fun v H2 m2 S2 st2 r2 => ?_⟩
    obtain ⟨a', vs, ds', j1, j2, j3, j4, _⟩ := S2.slots i _ hk
    rw [k1] at j1
    cases j1
    cases j2
    obtain ⟨S3, st3⟩ := S2.ownUpd hk k1 (j4.append (.cons r2 .nil))
    refine ⟨a, vs, v, rfl, rfl, j3, by rw [j4.length, ← LIM_eq]; exact hl, ?_⟩
    exact q σ _ m2 S3 ((SStep.of st2 SameOwn.refl).trans st3)
theorem s_boxSet {o i e : Expr} {b ci c : E} {tpos pos : Pos} (ho : ∀ g, PE X o (tE X.K Γ g b)) (hi : ∀ g, PE X i (tE X.K Γ g ci)) (he : ∀ g, PE X e (tE X.K Γ g c))
    (ha : ∀ v, assign (.Subscript o i tpos) X.env v = (do
      let w0 ← holding [v] (eval o X.env)
      let w1 ← holding [v, w0] (eval i X.env)
      standAt tpos
      holding [v, w0, w1] (setItem w0 w1 v)
      release [v, w0, w1] []))
    (hs : swapsWithSole [.Subscript o i tpos] e pos.line X.env = pure false) (hw : swappedStores [.Subscript o i tpos] e X.env = pure none) (h1 : (assignEach [.Subscript o i tpos] X.env).map (·.2) = [assign (.Subscript o i tpos) X.env]) :
    PS X (.Assign [.Subscript o i tpos] e pos) (tS X.K Γ (.boxSet b ci c)) :=
  psWeak (ps_asg (eg he) (pg_sub (eg ho) (eg hi) set_list ha) hs hw h1) fun B σ H ⟨g, env, hp, m, S, fl, hp', ev, q⟩ => by
    obtain ⟨d, h1, e1, ev⟩ := bind_some (show R.bind (evE reprL Γ c env hp) _ = _ from ev)
    obtain ⟨x, h2, e2, ev⟩ := bind_some ev
    obtain ⟨y, h3, e3, ev⟩ := bind_some ev
    have hw : ∃ k j xs n, x = .ref k ∧ y = .int j ∧ h3[k]? = some xs ∧ Ev.ixN xs.length j = some n ∧ fl = .nx env ∧ hp' = h3.set k (xs.set n d) := by
      cases x with
      | ref k =>
        cases y with
        | int j =>
          simp only at ev
          split at ev
          · rename_i xs hk
            split at ev
            · rename_i n hn
              obtain ⟨z1, z2⟩ := rok_inj ev
              exact ⟨k, j, xs, n, rfl, rfl, hk, hn, z1.symm, z2.symm⟩
            · cases ev
          · cases ev
        | _ => cases ev
      | _ => cases ev
    obtain ⟨k, j, xs, n, rfl, rfl, hk, hn, rfl, rfl⟩ := hw
    refine ⟨g, env, hp, m, S, d, h1, e1, fun v H1 m1 S1 st1 r1 => ⟨g, env, h1, m1, S1, _, h2, e2, fun w H2 m2 S2 st2 r2 => ?_⟩⟩
    refine ⟨g, env, h2, m2, S2, _, h3, e3, fun u H3 m3 S3 st3 r3 => ?_⟩
    cases r3
    cases r2 with
    | ref hm =>
      rename_i a
      have hm3 := st3.get hm
      obtain ⟨a', vs, k1, k2, k3⟩ := S3.cell k xs hk
      rw [hm3] at k1
      cases k1
      have r1' := (r1.step (fun a h => S1.at_m h) st2).step (fun a h => S2.at_m h) st3
      obtain ⟨S4, st4⟩ := S3.cellUpd hk hm3 (k3.set n r1')
      refine ⟨a, vs, j, n, rfl, rfl, k2, by rw [k3.length]; exact hn, ?_⟩
      exact q σ _ m3 S4 (SStep.of (((st1.trans st2).trans st3).trans st4) SameOwn.refl)
theorem s_setO {n : Nat} {x : Str} {i e : Expr} {ci c : E} {p tpos pos : Pos} (hN : X.N[n]? = some x) (hv : Vis X.env.scope x) (hd : (x == ("__debug__" : Str)) = false) (hcd : (x == ("__classdict__" : Str)) = false) (hi : ∀ g, PE X i (tE X.K Γ g ci)) (he : ∀ g, PE X e (tE X.K Γ g c))
    (ha : ∀ v, assign (.Subscript (.Name x p) i tpos) X.env v = (do
      let w0 ← holding [v] (eval (.Name x p) X.env)
      let w1 ← holding [v, w0] (eval i X.env)
      standAt tpos
      holding [v, w0, w1] (setItem w0 w1 v)
      release [v, w0, w1] []))
    (hs : swapsWithSole [.Subscript (.Name x p) i tpos] e pos.line X.env = pure false) (hw : swappedStores [.Subscript (.Name x p) i tpos] e X.env = pure none) (h1 : (assignEach [.Subscript (.Name x p) i tpos] X.env).map (·.2) = [assign (.Subscript (.Name x p) i tpos) X.env]) :
    PS X (.Assign [.Subscript (.Name x p) i tpos] e pos) (tS X.K Γ (.setO n ci c)) :=
  psWeak (ps_asg (eg he) (pg_sub (pe_var hN hv hd hcd) (eg hi) set_list ha) hs hw h1) fun B σ H ⟨g, env, hp, m, S, fl, hp', ev, q⟩ => by
    obtain ⟨d, h1, e1, ev⟩ := bind_some (show R.bind (evE reprL Γ c env hp) _ = _ from ev)
    obtain ⟨y, h3, e3, ev⟩ := bind_some ev
    have hw : ∃ j xs k, env[n]? = some (.own (.lst xs)) ∧ y = .int j ∧ Ev.ixN xs.length j = some k ∧ fl = .nx (env.set n (.own (.lst (xs.set k d)))) ∧ hp' = h3 := by
      split at ev
      · rename_i xs j hk
        split at ev
        · rename_i k hn
          obtain ⟨z1, z2⟩ := rok_inj ev
          exact ⟨j, xs, k, hk, rfl, hn, z1.symm, z2.symm⟩
        · cases ev
      · cases ev
    obtain ⟨j, xs, k, hk, rfl, hn, rfl, rfl⟩ := hw
    obtain ⟨a, vs0, ds0, k1, _, k3, _⟩ := S.slots n _ hk
    refine ⟨g, env, hp, m, S, d, h1, e1, fun v H1 m1 S1 st1 r1 => ⟨_, k1, g, env, h1, m1, S1, _, _, e3, fun u H3 m3 S3 st3 r3 => ?_⟩⟩
    cases r3
    obtain ⟨a', vs, ds', j1, j2, j3, j4, _⟩ := S3.slots n _ hk
    rw [k1] at j1
    cases j1
    cases j2
    have r1' := r1.step (fun a h => S1.at_m h) st3
    obtain ⟨S4, st4⟩ := S3.ownUpd hk k1 (j4.set k r1')
    refine ⟨a, vs, j, k, rfl, rfl, j3, by rw [j4.length]; exact hn, ?_⟩
    exact q σ _ m3 S4 ((SStep.of (st1.trans st3) SameOwn.refl).trans st4)
end
end Ev
end

section
set_option Elab.async false
set_option linter.all false
set_option maxRecDepth 100000
namespace Ev
open PySem L2 PyProof.Rows
variable [TabList]
section
variable {K : PySem.W.Frag} {g : Gh} {env env' : Env} {hp hp' : Heap} {m m' : List Addr} {σ σ' : L2.St} {H H' : Hp}
/-- a guarded list grows -/
theorem StRel.updG {L : Addr} {xs ys : List V} (S : StRel K g env hp m σ H) (hL : H L = some (.lst xs)) (hpr : g.Pr L) (h0 : g.H0 L = none) (hm : L ∉ m) : StRel K g env hp m σ (upd H L (.lst ys)) := by
  have hf : Fbd g env σ m L := .inl hpr
  refine ⟨S.len, fun j y hj => ?_, S.apart, S.cells, fun l ys h => ?_, S.nd, fun b h => ?_, fun b o h n nt => ?_, S.more, tabs_upd S.tabs (.inr ⟨_, hL⟩), fun b h => has_upd (S.has b h)⟩
  · have := S.slots j y hj
    cases y with
    | none => trivial
    | val d =>
      obtain ⟨v, h1, h2⟩ := this
      exact ⟨v, h1, h2.updIn hL hf⟩
    | own d =>
      obtain ⟨b, vs, es, h1, h2, h3, h4, h5, h6, h7⟩ := this
      have ne : b ≠ L := fun z => h7 (z ▸ hpr)
      exact ⟨b, vs, es, h1, h2, by rw [upd_ne ne]; exact h3, h4.updIn hL hf, h5, h6, h7⟩
    | bor d =>
      obtain ⟨b, vs, es, h1, h2, h3, h4, h5⟩ := this
      exact ⟨b, vs, es, h1, h2, h3.updIn (fun e _ => h5 (e ▸ h0)) (.inr hm), h4.updIn hL hf, h5⟩
  · obtain ⟨b, vs, h1, h2, h3⟩ := S.cell l ys h
    have ne : b ≠ L := fun z => hm (z ▸ List.mem_of_getElem? h1)
    exact ⟨b, vs, h1, by rw [upd_ne ne]; exact h2, h3.updIn hL hf⟩
  · by_cases e : b = L
    · rw [e, upd_same]
      simp
    · rw [upd_ne e]
      exact S.pr b h
  · have ne : b ≠ L := fun z => by
      rw [z, h0] at h
      cases h
    rw [upd_ne ne]
    exact S.frame b o h n nt
theorem upd_self {L : Addr} {o : HO} (h : H L = some o) : upd H L o = H := by
  funext a
  by_cases e : a = L
  · rw [e, upd_same, h]
  · rw [upd_ne e]
theorem Step.updL {L : Addr} {o : HO} (s : Step m H m' H') (hL : H L = none) (hl : H' L = none ∨ ∃ xs, H' L = some (.lst xs)) : Step m H m' (upd H' L o) := by
  refine ⟨s.more, fun a q h n nt => ?_, fun a q h => ?_, fun T t => tabs_upd (s.tabs T t) hl⟩
  · rw [upd_ne fun e => by rw [e, hL] at h; cases h]
    exact s.keep a q h n nt
  · rw [upd_ne fun e => by rw [e, hL] at h; cases h]
    exact s.there a q h
end
section
variable {Γ : Nat → List D → Heap → R D}
def lc2Turn (Γ : Nat → List D → Heap → R D) (elt : E) (cnd : List E) (vs : List Nat) (tg tg2 : Tg) (it2 : E) (cnd2 : List E) (env : Env) (x : D) (h : Heap) : R (List D) := match (clear env vs).bind (setTg tg x) with
  | none => none
  | some env => R.bind (evC reprL Γ cnd env h) fun b h => if b then R.bind (evE reprL Γ it2 env h) fun s h => match walk? s with
      | some xs => compLoop (lcTurn Γ elt cnd2 tg2.slots tg2 env) xs h
      | none => none
    else rok [] h
theorem evE_lc2 {elt it it2 : E} {tg tg2 : Tg} {cnd cnd2 : List E} {env : Env} {hp hp' : Heap} {d : D} (ev : evE reprL Γ (.lc2 elt tg it cnd tg2 it2 cnd2) env hp = some (.ok d hp')) :
    ∃ s h1 xs ys, evE reprL Γ it env hp = some (.ok s h1) ∧ walk? s = some xs ∧ compLoop (lc2Turn Γ elt cnd (tg.slots ++ tg2.slots) tg tg2 it2 cnd2 env) xs h1 = some (.ok ys hp') ∧ ys.length ≤ LIM ∧ d = .lst ys := by
  obtain ⟨s, h1, e1, ev⟩ := bind_some (show R.bind (evE reprL Γ it env hp) _ = _ from ev)
  cases hw : walk? s with
  | none =>
    rw [hw] at ev
    cases ev
  | some xs =>
    rw [hw] at ev
    obtain ⟨ys, h2, e2, ev⟩ := bind_some ev
    split at ev
    · rename_i hl
      obtain ⟨rfl, rfl⟩ := rok_inj ev
      exact ⟨s, h1, xs, ys, e1, hw, e2, hl, rfl⟩
    · cases ev
theorem lc2Turn_ok {elt it2 : E} {cnd cnd2 : List E} {tg tg2 : Tg} {vs : List Nat} {env : Env} {x : D} {h h' : Heap} {o : List D} (e : lc2Turn Γ elt cnd vs tg tg2 it2 cnd2 env x h = some (.ok o h')) :
    ∃ env1 env2 b h1, clear env vs = some env1 ∧ setTg tg x env1 = some env2 ∧ evC reprL Γ cnd env2 h = some (.ok b h1) ∧
      (b = true → ∃ s h2 xs, evE reprL Γ it2 env2 h1 = some (.ok s h2) ∧ walk? s = some xs ∧ compLoop (lcTurn Γ elt cnd2 tg2.slots tg2 env2) xs h2 = some (.ok o h')) ∧ (b = false → o = [] ∧ h1 = h') := by
  unfold lc2Turn at e
  split at e
  · cases e
  · rename_i env2 he
    obtain ⟨env1, h1, h2⟩ := Option.bind_eq_some_iff.mp he
    obtain ⟨b, h3, e1, e⟩ := bind_some e
    refine ⟨env1, env2, b, h3, h1, h2, e1, fun hb => ?_, fun hb => ?_⟩
    · subst hb
      obtain ⟨s, h4, e2, e⟩ := bind_some (show R.bind (evE reprL Γ it2 env2 h3) _ = _ from e)
      cases hw : walk? s with
      | none =>
        rw [hw] at e
        cases e
      | some xs =>
        rw [hw] at e
        exact ⟨s, h4, xs, e2, hw, e⟩
    · subst hb
      obtain ⟨rfl, rfl⟩ := rok_inj (show some (Out.ok [] h3) = some (.ok o h') from e)
      exact ⟨rfl, rfl⟩
end
section
variable {X : Cx} {Γ : Nat → List D → Heap → R D} {g : Gh}
theorem lc2_reads {elt it it2 : E} {tg tg2 : Tg} {cnd cnd2 : List E} {σ : L2.St} {H : Hp} {Q : VK} (q : tF X.K Γ g (.lc2 elt tg it cnd tg2 it2 cnd2) σ H Q) :
    tLc2 (tI X.K Γ g false it) (gT X.K tg) (tCg X.K Γ cnd) (tIg X.K Γ false it2) (gT X.K tg2) (tCg X.K Γ cnd2) (tEg X.K Γ elt) (tg.slots ++ tg2.slots) tg2.slots σ H Q := by
  obtain ⟨env, hp, m, S, d, hp', ev, _, q⟩ := q
  obtain ⟨s, h1, xs, ys, e1, hw, e2, hys, rfl⟩ := evE_lc2 ev
  refine ⟨env, hp, m, S, s, h1, xs, e1, hw, fun J ok H1 m1 S1 st1 wk ok1 hlen L hL => ?_⟩
  have hm1 : L ∉ m1 := fun z => by
    obtain ⟨vs, h⟩ := S1.at_m z
    rw [hL] at h
    cases h
  have h0L : g.H0 L = none := (S1.new hL).1
  refine ⟨fun i μ H2 => μ = xs.length - i ∧ i ≤ xs.length ∧ ∃ h2 m2 acc vacc rest, StRel X.K (g.guard L) env h2 m2 σ H2 ∧ Step m1 H1 m2 H2 ∧ L ∉ m2 ∧ H2 L = some (.lst vacc) ∧ RepL X.K (Fbd (g.guard L) env σ m2) m2 H2 vacc acc ∧
    compLoop (lc2Turn Γ elt cnd (tg.slots ++ tg2.slots) tg tg2 it2 cnd2 env) (xs.drop i) h2 = some (.ok rest hp') ∧ ys = acc ++ rest, ⟨xs.length, ?_⟩, ?_⟩
  · exact ⟨by simp, Nat.zero_le _, h1, m1, [], [], ys, S1.startG hL, Step.ext (Evl.Ex.new hL), hm1, upd_same .., .nil, e2, rfl⟩
  · rintro i μ H2 ⟨rfl, hi, h2, m2, acc, vacc, rest, S2, st2, hm2, hL2, racc, e3, ha⟩
    have ok2 : ok (g.guard L) env σ m2 H2 := wk.grd g env h1 σ m1 H1 L m2 H2 S1 hL st2 ok1
    by_cases hlt : i < xs.length
    · refine .inr ?_
      obtain ⟨go, yl⟩ := wk.go (g.guard L) env h2 σ m2 H2 i S2 ok2 hlt
      refine ⟨go, fun H' => i + 1 ≤ xs.length ∧ ∃ h2 m2 acc vacc rest, StRel X.K (g.guard L) env h2 m2 σ H' ∧ Step m1 H1 m2 H' ∧ L ∉ m2 ∧ H' L = some (.lst vacc) ∧ RepL X.K (Fbd (g.guard L) env σ m2) m2 H' vacc acc ∧
          compLoop (lc2Turn Γ elt cnd (tg.slots ++ tg2.slots) tg tg2 it2 cnd2 env) (xs.drop (i + 1)) h2 = some (.ok rest hp') ∧ ys = acc ++ rest,
        fun H' h => ⟨xs.length - (i + 1), by omega, rfl, h⟩, fun x H3 y => ?_⟩
      obtain ⟨ex3, d, hd, rx⟩ := yl x H3 y
      have hdrop : xs.drop i = d :: xs.drop (i + 1) := by
        obtain ⟨hl, rfl⟩ := List.getElem?_eq_some_iff.mp hd
        exact List.drop_eq_getElem_cons hl
      rw [hdrop] at e3
      obtain ⟨o, h3, rest', e4, e5, rfl⟩ := compLoop_cons e3
      obtain ⟨env1, env2, b, h4, c1, c2, c3, kt, kf⟩ := lc2Turn_ok e4
      have S3 : StRel X.K (g.guard L) env h2 m2 σ H3 := S2.ext ex3
      obtain ⟨S4, so4⟩ := clear_rel S3 c1
      refine ⟨g.guard L, env1, h2, m2, d, env2, S4, by rw [so4.fbd]; exact rx, c2, fun σ5 S5 so5 k5 l5 => ⟨wipe_same (by rw [l5, wipe_length]) fun j hj => k5 j fun z => hj (List.mem_append_left _ z), ?_⟩⟩
      refine ⟨g.guard L, env2, h2, m2, S5, b, h4, c3, fun H6 m6 S6 st6 => ?_⟩
      have so : SameOwn env σ env2 σ5 := so4.trans so5
      have stA : Step m1 H1 m2 H3 := st2.trans (Step.ext ex3)
      have hL3 : H3 L = some (.lst vacc) := ex3 _ _ hL2
      have racc3 : RepL X.K (Fbd (g.guard L) env σ m2) m2 H3 vacc acc := racc.ext ex3
      have at3 : ∀ a ∈ m2, ∃ vs, H3 a = some (.lst vs) := fun a h => S3.at_m h
      cases b with
      | false =>
        refine iteF ?_
        obtain ⟨rfl, rfl⟩ := kf rfl
        have S6' : StRel X.K (g.guard L) env h4 m6 σ H6 := S3.back S6 so st6
        exact ⟨hlt, h4, m6, acc, vacc, rest', S6', stA.trans st6, st6.off hL3 hm2, st6.keep _ _ hL3 hm2, racc3.step at3 st6, e5, ha⟩
      | true =>
        refine iteT ?_
        obtain ⟨s', h5, xs', f1, f2, f3⟩ := kt rfl
        refine ⟨g.guard L, env2, h4, m6, S6, s', h5, xs', f1, f2, fun J1 ok1' H7 m7 S7 st7 wk1 ok7 _ => ?_⟩
        have stB : Step m2 H3 m7 H7 := st6.trans st7
        have base : ∃ h8 m8 acc8 vacc8 rest8, StRel X.K (g.guard L) env2 h8 m8 σ5 H7 ∧ ok1' (g.guard L) env2 σ5 m8 H7 ∧ Step m1 H1 m8 H7 ∧ L ∉ m8 ∧ H7 L = some (.lst vacc8) ∧ RepL X.K (Fbd (g.guard L) env2 σ5 m8) m8 H7 vacc8 acc8 ∧
            compLoop (lcTurn Γ elt cnd2 tg2.slots tg2 env2) (xs'.drop 0) h8 = some (.ok rest8 h3) ∧ ys = acc8 ++ (rest8 ++ rest') := by
          refine ⟨h5, m7, acc, vacc, o, S7, ok7, stA.trans stB, stB.off hL3 hm2, stB.keep _ _ hL3 hm2, ?_, f3, ha⟩
          rw [so.fbd]
          exact racc3.step at3 stB
        refine ⟨fun j ν H8 => ν = xs'.length - j ∧ j ≤ xs'.length ∧ ∃ h8 m8 acc8 vacc8 rest8, StRel X.K (g.guard L) env2 h8 m8 σ5 H8 ∧ ok1' (g.guard L) env2 σ5 m8 H8 ∧ Step m1 H1 m8 H8 ∧ L ∉ m8 ∧ H8 L = some (.lst vacc8) ∧ RepL X.K (Fbd (g.guard L) env2 σ5 m8) m8 H8 vacc8 acc8 ∧
            compLoop (lcTurn Γ elt cnd2 tg2.slots tg2 env2) (xs'.drop j) h8 = some (.ok rest8 h3) ∧ ys = acc8 ++ (rest8 ++ rest'), ⟨xs'.length, by simp, Nat.zero_le _, base⟩, ?_⟩
        rintro j ν H8 ⟨rfl, hj, h8, m8, acc8, vacc8, rest8, S8, ok8, st8, hm8, hL8, racc8, e8, ha8⟩
        by_cases hlt' : j < xs'.length
        · refine .inr ?_
          obtain ⟨go1, yl1⟩ := wk1.go (g.guard L) env2 h8 σ5 m8 H8 j S8 ok8 hlt'
          refine ⟨go1, fun H' => j + 1 ≤ xs'.length ∧ ∃ h8 m8 acc8 vacc8 rest8, StRel X.K (g.guard L) env2 h8 m8 σ5 H' ∧ ok1' (g.guard L) env2 σ5 m8 H' ∧ Step m1 H1 m8 H' ∧ L ∉ m8 ∧ H' L = some (.lst vacc8) ∧ RepL X.K (Fbd (g.guard L) env2 σ5 m8) m8 H' vacc8 acc8 ∧
              compLoop (lcTurn Γ elt cnd2 tg2.slots tg2 env2) (xs'.drop (j + 1)) h8 = some (.ok rest8 h3) ∧ ys = acc8 ++ (rest8 ++ rest'), fun H' h => ⟨xs'.length - (j + 1), by omega, rfl, h⟩, fun x' H9 y' => ?_⟩
          obtain ⟨ex9, d', hd', rx'⟩ := yl1 x' H9 y'
          have hdrop' : xs'.drop j = d' :: xs'.drop (j + 1) := by
            obtain ⟨hl, rfl⟩ := List.getElem?_eq_some_iff.mp hd'
            exact List.drop_eq_getElem_cons hl
          rw [hdrop'] at e8
          obtain ⟨o', h9, rest9, e9, e10, rfl⟩ := compLoop_cons e8
          obtain ⟨env3, env4, b', h10, c4, c5, c6, kt', kf'⟩ := lcTurn_ok e9
          have S9 : StRel X.K (g.guard L) env2 h8 m8 σ5 H9 := S8.ext ex9
          obtain ⟨S10, so10⟩ := clear_rel S9 c4
          refine ⟨g.guard L, env3, h8, m8, d', env4, S10, by rw [so10.fbd]; exact rx', c5, fun σ11 S11 so11 k11 l11 => ⟨wipe_same (by rw [l11, wipe_length]) k11, ?_⟩⟩
          refine ⟨g.guard L, env4, h8, m8, S11, b', h10, c6, fun H12 m12 S12 st12 => ?_⟩
          have so' : SameOwn env2 σ5 env4 σ11 := so10.trans so11
          have stC : Step m1 H1 m8 H9 := st8.trans (Step.ext ex9)
          have stD : Step m8 H8 m12 H12 := (Step.ext ex9).trans st12
          have hL9 : H9 L = some (.lst vacc8) := ex9 _ _ hL8
          have racc9 : RepL X.K (Fbd (g.guard L) env2 σ5 m8) m8 H9 vacc8 acc8 := racc8.ext ex9
          have at9 : ∀ a ∈ m8, ∃ vs, H9 a = some (.lst vs) := fun a h => S9.at_m h
          cases b' with
          | false =>
            refine iteF ?_
            obtain ⟨rfl, rfl⟩ := kf' rfl
            have S12' : StRel X.K (g.guard L) env2 h10 m12 σ5 H12 := S9.back S12 so' st12
            exact ⟨hlt', h10, m12, acc8, vacc8, rest9, S12', wk1.keep _ env2 h8 σ5 m8 H8 env2 σ5 m12 H12 S8 ⟨stD, SameOwn.refl⟩ ok8, stC.trans st12, st12.off hL9 hm8, st12.keep _ _ hL9 hm8, racc9.step at9 st12, e10, ha8⟩
          | true =>
            refine iteT ?_
            obtain ⟨y, e11, rfl⟩ := kt' rfl
            refine ⟨g.guard L, env4, h10, m12, S12, y, h9, e11, fun v H13 m13 S13 st13 r13 => ?_⟩
            have stE : Step m8 H9 m13 H13 := st12.trans st13
            have hL13 : H13 L = some (.lst vacc8) := stE.keep _ _ hL9 hm8
            have hm13 : L ∉ m13 := stE.off hL9 hm8
            have racc13 : RepL X.K (Fbd (g.guard L) env2 σ5 m13) m13 H13 vacc8 acc8 := racc9.step at9 stE
            have S13' : StRel X.K (g.guard L) env2 h9 m13 σ5 H13 := S9.back S13 so' stE
            have ok13 : ok1' (g.guard L) env2 σ5 m13 H13 := wk1.keep _ env2 h8 σ5 m8 H8 env2 σ5 m13 H13 S8 ⟨(Step.ext ex9).trans stE, SameOwn.refl⟩ ok8
            have hf : Fbd (g.guard L) env2 σ5 m13 L := .inl (.inr rfl)
            have r13' : RepL X.K (Fbd (g.guard L) env2 σ5 m13) m13 H13 [v] [y] := by
              rw [so'.fbd] at r13
              exact .cons r13 .nil
            have hl8 : acc8.length < LIM := by
              have : ys.length = (acc8 ++ ([y] ++ rest9 ++ rest')).length := by rw [ha8]
              simp only [List.length_append, List.length_cons, List.length_nil] at this
              omega
            refine ⟨vacc8, hL13, by rw [← LIM_eq, racc13.length]; exact hl8, hlt', h9, m13, acc8 ++ [y], vacc8 ++ [v], rest9, S13'.updG hL13 (.inr rfl) h0L hm13, wk1.grow _ _ _ _ _ L _ _ (.inr rfl) h0L hL13 ok13, (stC.trans stE).updL hL (.inr ⟨_, hL13⟩), hm13, upd_same .., ?_, e10, by rw [ha8]; simp⟩
            exact (racc13.updIn hL13 hf).append (r13'.updIn hL13 hf)
        · have hj' : j = xs'.length := by omega
          subst hj'
          refine .inl ⟨wk1.stop _ _ _ _ _ ok8, hlt, h8, m8, acc8, vacc8, rest', ?_, st8, hm8, hL8, ?_, ?_, ?_⟩
          · have := S1.backG (xs := vacc8) hL S8 so (st8.updL hL (.inr ⟨_, hL8⟩)) ⟨_, hL8⟩ hm8
            rw [upd_self hL8] at this
            exact this
          · rw [so.fbd] at racc8
            exact racc8
          · rw [List.drop_length] at e8
            obtain ⟨z1, z2⟩ := rok_inj (show some (Out.ok [] h8) = some (.ok rest8 h3) from e8)
            rw [z2]
            exact e5
          · rw [List.drop_length] at e8
            obtain ⟨rfl, _⟩ := rok_inj (show some (Out.ok [] h8) = some (.ok rest8 h3) from e8)
            exact ha8
    · have hi' : i = xs.length := by omega
      subst hi'
      refine .inl ⟨wk.stop _ _ _ _ _ ok2, ?_⟩
      rw [List.drop_length] at e3
      obtain ⟨rfl, rfl⟩ := rok_inj (show some (Out.ok [] h2) = some (.ok rest hp') from e3)
      rw [List.append_nil] at ha
      subst ha
      exact q _ L _ _ m2 rfl (st1.fresh hL) S2 (st1.trans st2) hm2 hL2 racc
theorem lc2_lst {c it it2 : E} {cnd cnd2 : List E} {t t2 : Tg} : ∀ env hp d hp', evE reprL Γ (.lc2 c t it cnd t2 it2 cnd2) env hp = some (.ok d hp') → ∃ ds, d = .lst ds := fun env hp d hp' ev =>
  let ⟨_, _, _, ys, _, _, _, _, e⟩ := evE_lc2 ev
  ⟨ys, e⟩
theorem f_rev {e : Expr} {c : E} {k : Nat} {p1 p2 p3 pos : Pos} (he : PE X e (tV X.K Γ g c)) : PE X (.Subscript e (.Slice none none (some (.UnaryOp .USub (.Constant (.int 1) k p1) p2)) p3) pos) (tF X.K Γ g (.op1 .rev c)) :=
  peWeak (pe_rev0 he) fun σ H Q ⟨env, hp, m, S, d, hp', ev, hd, q⟩ => by
    obtain ⟨ds, rfl⟩ := hd
    obtain ⟨x, x', e1, d1, ho⟩ := evE_op1 ev
    refine ⟨env, hp, m, S, x, hp', e1, fun v H1 m1 S1 st1 r1 => ⟨Fbd g env σ m1, m1, x', _, S1.fb, r1.v.cell S1 d1, ho, fun p ws es np rl => ⟨fun e => ?_, fun e => ?_⟩⟩⟩
    · cases e
    · cases e
      refine q _ p ws _ m1 rfl (st1.fresh np) (S1.startG np) (st1.trans (Step.ext (Evl.Ex.new np))) (fun z => ?_) (upd_same ..) (rl.upd (.inl np) fun b us hb _ e => ?_)
      · obtain ⟨us, hw⟩ := S1.at_m z
        rw [np] at hw
        cases hw
      · rw [e, np] at hb
        cases hb
end
end Ev
end

section
set_option Elab.async false
set_option linter.all false
set_option maxRecDepth 100000
namespace Ev
open PySem PySem.Spec L2 PyProof.Rows
variable [TabList]
/-! ### what a def promises, where no repr is under way -/
structure FnG (P : Program) (w : World) (K : PySem.W.Frag) (mg : Str → Option Value) (base : PySem.Heap) (CX : CXT) (k : Nat) (f : Addr) (fd : FuncData) (ps : List Str) (sp : Sp) : Prop where
  len : ∀ vs M Q W, sp vs M Q W → vs.length = ps.length
  run : ∀ (B : Around) (frs : List PySem.Env) (t : Shared) (M : Hp) (args : Args) (us : List Value) (vs : List V) (Q : VK) (W : XK), Room k B → B.guards = some [] → Env0 P w K mg base B frs t M →
    BindsTo t fd args (ps.zip us) → Vals vs us → sp vs M Q W → codeAny (model P w) B (.call (.ref f) args) (CR CX frs P w M t Q W) t
section
variable {P : Program} {w : World} {K : PySem.W.Frag} {mg : Str → Option Value} {base : PySem.Heap} {CX : CXT} {j k : Nat} {f : Addr} {fd : FuncData} {ps : List Str} {sp : Sp}
theorem FnG.mono (F : FnG P w K mg base CX j f fd ps sp) (h : j ≤ k) : FnG P w K mg base CX k f fd ps sp :=
  ⟨F.len, fun B frs t M args us vs Q W room => F.run B frs t M args us vs Q W (room.mono h)⟩
/-- a def by its body -/
theorem fnG_of {name qual : Str} {st : Stmt} {N : List Str} (F : Fun K name qual st f fd) (sc : FnScope N ps (defScope st)) (len : ∀ vs M Q W, sp vs M Q W → vs.length = ps.length)
    (hbody : ∀ (cd : Value) (B : Around) (frs : List PySem.Env) (t : Shared) (M : Hp) (vs : List V) (Q : VK) (W : XK), Room k (B.deeper (envOfC qual (defScope st) t.heap.objs.size f cd)) → (B.deeper (envOfC qual (defScope st) t.heap.objs.size f cd)).guards = some [] →
      sp vs M Q W → ∃ r, PSs (cxOf CX P w K mg base N qual (defScope st) f cd B frs t M W) (defBody st) r ∧ r { nx := fun _ M' => Q .non M', rt := Q } (start N vs) M) :
    FnG P w K mg base CX (k + 1) f fd ps sp := by
  obtain ⟨oc, od, kV, doc, pm, an, cd, ct, osl, rfl, lk, hcd⟩ := F.ex
  refine ⟨len, fun B frs t M args us vs Q W room hgu e0 hb rv hsp => ?_⟩
  have there : K.In t.heap := e0.mod.kin.keeps fun b o e => (e0.bs b o e).1
  have kinds : ∀ y ∈ ps.zip us, (defScope st).names.lookup y.1 = some .local ∨ ((defScope st).names.lookup y.1 = some .cell ∧ ((cellsFrom (t.heap.objs.size + 1) (defScope st).names []).lookup y.1).isSome = true) := by
    rintro ⟨y, u⟩ hy
    refine (sc.par y (List.of_mem_zip hy).1).imp id fun c => ⟨c, ?_⟩
    exact PySem.W.cellsFrom_some _ _ _ (.inl c)
  refine codeAny_call_function room.depth (there _ _ lk) rfl sc.co sc.gen rfl (PySem.W.codeRec_of there hcd) (hb _ _ _ _ ?_)
  refine wpAny_newFunctionEnv_cells sc.kind kinds fun env he t1 inn => ?_
  subst he
  refine ⟨(e0.mod.nolimit.keeps fun b o e => (e0.bs b o e).1).keeps inn.toInCall.keep, codeAny_func ?_⟩
  obtain ⟨r, hr, hq⟩ := hbody cd B frs t M vs Q W (room.deeper _) (by show B.guards = _; exact hgu) hsp
  have I := inv_start (CX := CX) (E := W) sc room.hd e0 (len _ _ _ _ hsp) rv inn
  refine wpAny_mono (hr.run [] t1 (start N vs) M _ I hq) (fun fl t2 done => ?_) fun e t2 done => done
  cases fl with
  | brk =>
    obtain ⟨_, _, _, z⟩ := done
    exact z.elim
  | cont =>
    obtain ⟨_, _, _, z⟩ := done
    exact z.elim
  | next =>
    obtain ⟨_, M', J, z⟩ := done
    exact ⟨.non, M', J.os, J.bare, J.base, J.hok, rfl, z⟩
  | ret u =>
    obtain ⟨v, _, M', J, rel, z⟩ := done
    exact ⟨v, M', J.os, J.bare, J.base, J.hok, rel, z⟩
end
section
variable {X : Cx} {CX : CXT} {k : Nat} {f : Addr} {fd : FuncData} {ps ks : List Str} {sp : Sp} {W : XK} {x : Str} {p pos : Pos} {e : Expr} {es : List Expr} {kws : List Keyword} {t tk : TA}
/-- a call of the def at f that gives it us, by whatever binding: its contract tells the value -/
theorem runG {pins : List (Addr × Obj)} {σ : L2.St} {H : Hp} {s : Shared} {Q : VK} {us : List Value} {vs : List V} {args : Args} (F : FnG X.prog X.w X.K X.mg X.base CX k f fd ps sp) (room : Room k X.A) (quiet : X.A.guards = some []) (up : Passes CX X W)
    (I : Inv X pins σ H s) (bound : BindsTo s fd args (ps.zip us)) (same : Vals vs us) (told : sp vs H Q W) : wpAny (model X.prog X.w) X.A (call (.ref f) args.pos args.kw) (EP X pins σ Q) X.xe s :=
  wpAny_call (codeAny_mono (F.run X.A X.stack s H args us vs Q W room quiet I.env0 bound same told) fun
    | .error e, z, raised => up pins σ H s e z I raised
    | .ok (.ret _), _, done => I.after done
    | .ok .next, _, no | .ok .brk, _, no | .ok .cont, _, no => no)
theorem callG {pins : List (Addr × Obj)} {σ : L2.St} {H : Hp} {s : Shared} {Q : VK} {us : List Value} {vs : List V} (F : FnG X.prog X.w X.K X.mg X.base CX k f fd ps sp) (room : Room k X.A) (quiet : X.A.guards = some []) (up : Passes CX X W) (binds : Binds X.K fd ps [])
    (I : Inv X pins σ H s) (same : Vals vs us) (told : sp vs H Q W) : wpAny (model X.prog X.w) X.A (call (.ref f) us) (EP X pins σ Q) X.xe s := by
  have n : us.length = ps.length := same.length ▸ F.len _ _ _ _ told
  have bound := binds s us I.kIn ((List.append_nil us).symm ▸ n)
  simp only [List.append_nil] at bound
  exact runG (args := ⟨us, []⟩) F room quiet up I bound same told
theorem pe_callG (F : FnG X.prog X.w X.K X.mg X.base CX k f fd ps sp) (room : Room k X.A) (quiet : X.A.guards = some []) (up : Passes CX X W) (global : Gl X x) (here : X.mg x = some (.ref f)) (kept : PySem.W.keepIn X.K (.ref f) = true) (binds : Binds X.K fd ps [])
    (args : PA X (e :: es) t) (plain : (x == ("__debug__" : Str)) = false) (first : starEach (e :: es) X.env = (false, eval e X.env) :: starEach es X.env) (no_star : (backTo pos (starEach es X.env)).any (·.1) = false) :
    PE X (.Call (.Name x p) (e :: es) [] pos) fun σ H Q => t σ H fun vs H1 => sp vs H1 Q W where
  run pins s σ H Q I told := by
    have made := thn (args.run pos pins s σ H _ I told) (Q' := fun us z => X.K.In z.heap ∧ wpAny (model X.prog X.w) X.A (call (.ref f) us) (EP X pins σ Q) X.xe z) fun us z ⟨vs, H1, J, same, q⟩ => ⟨J.kIn, callG F room quiet up binds J same q⟩
    exact wpAny_Call_Name_kw (ld_glob I global here (PySem.W.callWith_K (h₀ := X.base) I.ok.mod.kin kept made first no_star) plain)
theorem pe_callG0 (F : FnG X.prog X.w X.K X.mg X.base CX k f fd ps sp) (room : Room k X.A) (quiet : X.A.guards = some []) (up : Passes CX X W) (global : Gl X x) (here : X.mg x = some (.ref f)) (kept : PySem.W.keepIn X.K (.ref f) = true) (binds : Binds X.K fd ps [])
    (plain : (x == ("__debug__" : Str)) = false) : PE X (.Call (.Name x p) [] [] pos) fun σ H Q => sp [] H Q W where
  run pins s σ H Q I told := wpAny_Call_Name_kw (ld_glob I global here (PySem.W.callWith_K0 I.kIn kept (callG (us := []) F room quiet up binds I .nil told)) plain)
/-- the values of a call, by position and by keyword, in the parameters' order -/
structure KB (K : PySem.W.Frag) (fd : FuncData) (ps : List Str) (n : Nat) (ks : List Str) (perm : List Nat) : Prop where
  to : ∀ (s : Shared) (us ws ys : List Value), K.In s.heap → us.length = n → ws.length = ks.length → perm.mapM ((us ++ ws)[·]?) = some ys → BindsTo s fd ⟨us, ks.zip ws⟩ (ps.zip ys)
theorem mapM_get {α β : Type} {R : α → β → Prop} {as : List α} {bs : List β} (h : ∀ (i : Nat) a, as[i]? = some a → ∃ b, bs[i]? = some b ∧ R a b) : ∀ {perm : List Nat} {xs : List α}, perm.mapM (as[·]?) = some xs →
    ∃ ys, perm.mapM (bs[·]?) = some ys ∧ xs.length = ys.length ∧ ∀ (i : Nat) x, xs[i]? = some x → ∃ y, ys[i]? = some y ∧ R x y
  | [], xs, e => by
    simp only [List.mapM_nil] at e
    obtain rfl := Option.some.inj e
    exact ⟨[], rfl, rfl, fun i x hx => by simp at hx⟩
  | i :: perm, xs, e => by
    rw [List.mapM_cons] at e
    obtain ⟨a, ha, e⟩ := Option.bind_eq_some_iff.mp e
    obtain ⟨xs', hx, e⟩ := Option.bind_eq_some_iff.mp e
    obtain rfl := Option.some.inj e
    obtain ⟨b, hb, r⟩ := h i a ha
    obtain ⟨ys, hy, hl, rs⟩ := mapM_get h hx
    refine ⟨b :: ys, by rw [List.mapM_cons, hb, hy]; rfl, by simp [hl], fun j x hx => ?_⟩
    cases j with
    | zero =>
      obtain rfl := Option.some.inj hx
      exact ⟨b, rfl, r⟩
    | succ j => exact rs j x hx
theorem vals_of {vs : List V} {us : List Value} (hl : vs.length = us.length) (h : ∀ (i : Nat) v, vs[i]? = some v → ∃ u, us[i]? = some u ∧ RelV v u) : Vals vs us := by
  induction vs generalizing us with
  | nil =>
    cases us with
    | nil => exact .nil
    | cons _ _ => cases hl
  | cons v vs ih =>
    cases us with
    | nil => cases hl
    | cons u us =>
      obtain ⟨u', e, r⟩ := h 0 v rfl
      obtain rfl := Option.some.inj e
      exact .cons r (ih (by simpa using hl) fun i v hv => h (i + 1) v hv)
theorem callKG {pins : List (Addr × Obj)} {σ : L2.St} {H : Hp} {s : Shared} {Q : VK} {us ws : List Value} {vs zs xs : List V} {n : Nat} {perm : List Nat} (F : FnG X.prog X.w X.K X.mg X.base CX k f fd ps sp) (room : Room k X.A) (quiet : X.A.guards = some []) (up : Passes CX X W) (binds : KB X.K fd ps n ks perm)
    (I : Inv X pins σ H s) (rv : Vals vs us) (rz : Vals zs ws) (l1 : vs.length = n) (l2 : zs.length = ks.length) (order : perm.mapM ((vs ++ zs)[·]?) = some xs) (told : sp xs H Q W) : wpAny (model X.prog X.w) X.A (call (.ref f) us (ks.zip ws)) (EP X pins σ Q) X.xe s := by
  obtain ⟨ys, hy, same, each⟩ := mapM_get (bs := us ++ ws) (R := fun v u => RelV v u) (fun i a ha => (rv.append rz).get ha) order
  have bound := binds.to s us ws ys I.kIn (rv.length ▸ l1) (rz.length ▸ l2) hy
  exact runG (args := ⟨us, ks.zip ws⟩) F room quiet up I bound (vals_of same each) told
/-- what has to be so of keywords in a call -/
structure Keywords (X : Cx) (pos : Pos) (kws : List Keyword) (ks : List Str) : Prop where
  named : (backToKw pos (keywordEach kws X.env)).all (·.1.isSome) = true
  names : (backToKw pos (keywordEach kws X.env)).filterMap (·.1) = ks
theorem pe_callKG {n : Nat} {perm : List Nat} (F : FnG X.prog X.w X.K X.mg X.base CX k f fd ps sp) (room : Room k X.A) (quiet : X.A.guards = some []) (up : Passes CX X W) (global : Gl X x) (here : X.mg x = some (.ref f)) (kept : PySem.W.keepIn X.K (.ref f) = true) (binds : KB X.K fd ps n ks perm)
    (args : PA X (e :: es) t) (more : PK X kws tk) (kw : Keywords X pos kws ks) (plain : (x == ("__debug__" : Str)) = false) (first : starEach (e :: es) X.env = (false, eval e X.env) :: starEach es X.env)
    (no_star : ((backTo pos (starEach (e :: es) X.env)).any (·.1) || (backToKw pos (keywordEach kws X.env)).any (·.1.isNone)) = false) :
    PE X (.Call (.Name x p) (e :: es) kws pos) fun σ H Q => t σ H fun vs H1 => tk σ H1 fun zs H2 => vs.length = n ∧ zs.length = ks.length ∧ ∃ xs, perm.mapM ((vs ++ zs)[·]?) = some xs ∧ sp xs H2 Q W where
  run pins s σ H Q I told := by
    refine wpAny_Call_Name_kw (ld_glob I global here (PySem.W.callWith_KW (h₀ := X.base) I.ok.mod.kin kept kw.named ?_ no_star first) plain)
    refine thn (args.run pos pins s σ H _ I told) fun us z ⟨vs, H1, J, same, q⟩ => thn (more.run pos pins z σ H1 _ J q) fun ws y ⟨zs, H2, L, same2, l1, l2, xs, order, q⟩ => ⟨L.kIn, ?_⟩
    exact kw.names ▸ callKG F room quiet up binds L same same2 l1 l2 order q
theorem pe_callKG0 {perm : List Nat} (F : FnG X.prog X.w X.K X.mg X.base CX k f fd ps sp) (room : Room k X.A) (quiet : X.A.guards = some []) (up : Passes CX X W) (global : Gl X x) (here : X.mg x = some (.ref f)) (kept : PySem.W.keepIn X.K (.ref f) = true) (binds : KB X.K fd ps 0 ks perm)
    (more : PK X kws tk) (kw : Keywords X pos kws ks) (plain : (x == ("__debug__" : Str)) = false) (no_star : ((backTo pos (starEach [] X.env)).any (·.1) || (backToKw pos (keywordEach kws X.env)).any (·.1.isNone)) = false) :
    PE X (.Call (.Name x p) [] kws pos) fun σ H Q => tk σ H fun zs H2 => zs.length = ks.length ∧ ∃ xs, perm.mapM (zs[·]?) = some xs ∧ sp xs H2 Q W where
  run pins s σ H Q I told := by
    refine wpAny_Call_Name_kw (ld_glob I global here (PySem.W.callWith_KW0 (h₀ := X.base) I.ok.mod.kin kept kw.named ?_ no_star) plain)
    refine thn (more.run pos pins s σ H _ I told) fun ws y ⟨zs, H2, L, same2, l2, xs, order, q⟩ => ⟨L.kIn, ?_⟩
    exact kw.names ▸ callKG (us := []) (vs := []) F room quiet up binds L .nil same2 rfl l2 order q
end
end Ev
end

section
set_option Elab.async false
set_option linter.all false
set_option maxRecDepth 100000
namespace Ev
open PySem PySem.Spec L2 PyProof.Rows
variable [TabList]
/-! ### the law's own call -/
section
variable {P : Program} {w : World} {K : PySem.W.Frag} {mg mb : Str → Option Value} {CX : CXT} {k : Nat} {f a : Addr} {fd : FuncData} {x : Str} {sp : Sp} {t : Shared} {us : List Value} {ns : List Int}
/-- the list that the law gets, as its caller holds it -/
abbrev scriptO (us : List Value) : Obj := { cls := .type "list", data := .seq us.toArray }
/-- from a tracked heap M that tells the script alone -/
theorem law_from (M : Hp) (kin : K.In t.heap) (nsg : t.heap.Ns mainGlobals mg) (nsb : t.heap.Ns builtinsNs mb) (boot : ∀ y : Str, y ≠ "__name__" → mb y = bootBuiltins y) (nolim : t.heap.NoLimit) (hg : t.gens = #[])
    (ha : t.heap.get? a = some (scriptO us)) (room : Room k callerA) (F : ∀ base : PySem.Heap, K.In base → base.Ns mainGlobals mg → FnG P w K mg base CX k f fd [x] sp) (hb : ∀ (s : Shared) (u : Value), BindsTo s fd ⟨[u], []⟩ [(x, u)])
    (only : Only M) (hok : HOk P w M t.heap) (alone : ∀ b, M b ≠ none → b = a ∧ K.lookup a = none) (hsp : sp [.ref a] M (fun v _ => v = .bl true) fun _ _ _ => False) (hX : ∀ e s', CX [] M t (fun _ _ _ => False) e s' → False) :
    codeAny (model P w) callerA (.call (.ref f) ⟨[.ref a], []⟩) (fun r s' => r = .ok (.ret (.bool true)) ∧ OldK t.heap s'.heap ∧ s'.os = t.os ∧ AllBare s'.gens) t := by
  have other : ∀ {b : Addr} {o : Obj}, t.heap.get? b = some o → o ≠ scriptO us → M b = none := fun {b o} e n => Classical.byContradiction fun z => n (by
    rw [(alone b z).1, ha] at e
    exact (Option.some.inj e).symm)
  have ns : ∀ {b : Addr} {m : Str → Option Value}, t.heap.Ns b m → (hidT t.heap M).Ns b m := by
    rintro b m ⟨o, es, ep, e, d, rest⟩
    exact ⟨o, es, ep, hidT_get e (other e fun z => by rw [z] at d; cases d), d, rest⟩
  have kept : K.In (hidT t.heap M) := fun b o e => hidT_get (kin b o e) (Classical.byContradiction fun z => by
    obtain ⟨z1, z2⟩ := alone b z
    rw [z1, z2] at e
    cases e)
  have md : Mod K mg (hidT t.heap M) := by
    obtain ⟨mc, n1, n2⟩ := nolim
    exact ⟨kept, ns nsg, ⟨mb, ns nsb, boot⟩, mc, ns n1, n2⟩
  have start : Env0 P w K mg (hidT t.heap M) callerA [] t M := { frames := rfl, mod := md, bs := fun b o e => of_hidT e, bsz := Nat.le_of_eq (hidT_size _ _), funs := trivial, frf := fun b hb => (by cases hb), hok := hok, bare := .of_eq hg }
  refine codeAny_mono ((F _ kept (ns nsg)).run callerA [] t M _ [.ref a] [.ref a] _ _ room rfl start (hb t (.ref a)) (.cons rfl .nil) hsp) fun r s' done => ?_
  match r, done with
  | .error e, done => exact (hX e s' done).elim
  | .ok (.ret u), done =>
    obtain ⟨v, M', os, bare, un, hok', rel, q⟩ := done
    obtain rfl : v = .bl true := q
    obtain rfl : u = Value.bool true := rel
    refine ⟨rfl, .of_keep fun b o e => ?_, os, bare⟩
    by_cases z : M b = none
    · exact un.keep b o e z (fun h => by cases h) fun h => by cases h
    · rcases only b with h | ⟨ob, xs, h⟩
      · exact absurd h z
      · have e1 := (hok b _ h).1
        rw [e] at e1
        rw [Option.some.inj e1]
        exact (hok' b _ (un.frzs b ob _ h)).1
/-- the head, from the promise -/
theorem law_callG (kin : K.In t.heap) (nsg : t.heap.Ns mainGlobals mg) (nsb : t.heap.Ns builtinsNs mb) (boot : ∀ y : Str, y ≠ "__name__" → mb y = bootBuiltins y) (nolim : t.heap.NoLimit) (hg : t.gens = #[])
    (ha : t.heap.get? a = some (scriptO us)) (hi : IntsAre us ns) (hl : ns.length ≤ sizeLine) (room : Room k callerA) (F : ∀ base : PySem.Heap, K.In base → base.Ns mainGlobals mg → FnG P w K mg base CX k f fd [x] sp) (hb : ∀ (s : Shared) (u : Value), BindsTo s fd ⟨[u], []⟩ [(x, u)])
    (hsp : ∀ M : Hp, Only M → SqL K M a (ns.map V.int) → sp [.ref a] M (fun v _ => v = .bl true) fun _ _ _ => False) (hX : ∀ M e s', CX [] M t (fun _ _ _ => False) e s' → False) :
    codeAny (model P w) callerA (.call (.ref f) ⟨[.ref a], []⟩) (fun r s' => r = .ok (.ret (.bool true)) ∧ OldK t.heap s'.heap ∧ s'.os = t.os ∧ AllBare s'.gens) t := by
  have rel := vals_ints hi
  have size : (ns.map V.int).length ≤ sizeLine := by
    rw [List.length_map]
    exact hl
  cases hk : K.lookup a with
  | some o =>
    obtain rfl : scriptO us = o := Option.some.inj (ha.symm.trans (kin a o hk))
    have only : Only fun _ => none := fun _ => .inl rfl
    have written : SqL K (fun _ => none) a (ns.map V.int) := .inr ⟨_, us.toArray, _, hk, rfl, rfl, rfl, by rw [List.size_toArray, hi.length]; exact hl, by simpa using rel⟩
    exact law_from _ kin nsg nsb boot nolim hg ha room F hb only (fun b u z => by cases z) (fun b z => absurd rfl z) (hsp _ only written) (hX _)
  | none =>
    let M : Hp := fun b => if b = a then some (.frz (scriptO us) (.lst (ns.map V.int))) else none
    have M_a : M a = some (.frz (scriptO us) (.lst (ns.map V.int))) := if_pos rfl
    have M_ne : ∀ {b : Addr}, b ≠ a → M b = none := fun h => if_neg h
    have only : Only M := fun b => by
      by_cases e : b = a
      · exact .inr ⟨_, _, e ▸ M_a⟩
      · exact .inl (M_ne e)
    refine law_from M kin nsg nsb boot nolim hg ha room F hb only (fun b u z => ?_) (fun b z => ⟨Classical.byContradiction fun h => z (M_ne h), hk⟩) (hsp _ only (.inl (.inr ⟨_, M_a⟩))) (hX _)
    by_cases e : b = a
    · subst e
      rw [M_a] at z
      cases z
      exact ⟨ha, size, us, _, rel, ha⟩
    · rw [M_ne e] at z
      cases z
end
/-- what k_head and k_fill leave -/
theorem walkG {l : PySem.W.OpenLaw} {n k : Nat} {q : Program} {loose : List Str} {XP : (Str → Option Value) → PySem.Heap → Prop} {YP : World → PySem.Heap → Prop} {d : DefRec} {K : Params → PySem.W.Frag} {CX : CXT} {sp : PySem.W.Frag → Sp} {x : Str}
    (most : l.most = some n) (small : n ≤ sizeLine) (nodef : d.params.defaults = []) (room : Room k callerA) (kin : ∀ (w : World) (h : PySem.Heap), YP w h → (K w.params).In h)
    (F : ∀ (w : World) (mg : Str → Option Value) (f : Addr) (h : PySem.Heap), (K w.params).In h → h.Ns mainGlobals mg → mg d.name = some (.ref f) → ∃ fd : FuncData, (∀ (s : Shared) (u : Value), BindsTo s fd ⟨[u], []⟩ [(x, u)]) ∧
      ∀ base : PySem.Heap, (K w.params).In base → base.Ns mainGlobals mg → FnG l.prog w (K w.params) mg base CX k f fd [x] (sp (K w.params)))
    (hsp : ∀ (K : PySem.W.Frag) (M : Hp) (a : Addr) (ns : List Int), ns.length ≤ n → Only M → SqL K M a (ns.map V.int) → sp K [.ref a] M (fun v _ => v = .bl true) fun _ _ _ => False)
    (hX : ∀ (M : Hp) (s : Shared) (e : Value) (s' : Shared), CX [] M s (fun _ _ _ => False) e s' → False) : PySem.W.WalkO q loose XP YP l.row.toRowW d [] (fun f vs => PySem.call f vs) := by
  refine Att.attach_call most nodef fun w t0 t mg mb f o pm cd doc a us ns G Y _ _ _ hmg obj hints len gens => ?_
  obtain ⟨fd, hb, hF⟩ := F w mg f _ (kin w _ Y) G.T.g hmg
  exact law_callG (kin w _ Y) G.T.g G.T.b G.T.builtins G.T.nolimit gens obj hints (Nat.le_trans len small) room hF hb (fun M only sq => hsp _ M a ns len only sq) fun M e s' => hX M t e s'
end Ev
end

section
set_option Elab.async false
set_option linter.all false
set_option maxRecDepth 100000
namespace Ev
open PySem L2 PyProof.Rows
variable [TabList]
/-! ### defs, by the evaluator -/
def Pm (Pr : Addr → Prop) (m : List Addr) : Addr → Prop := fun a => Pr a ∨ a ∈ m
structure Cells (K : PySem.W.Frag) (Pr : Addr → Prop) (hp : Heap) (m : List Addr) (H : Hp) : Prop where
  cells : m.length = hp.length
  cell : ∀ (k : Nat) (xs : List D), hp[k]? = some xs → ∃ a vs, m[k]? = some a ∧ H a = some (.lst vs) ∧ RepL K (Pm Pr m) m H vs xs
  nd : m.Nodup
  pr : ∀ a, Pr a → H a ≠ none
  tabs : LamX.Tabs TabList.T H
inductive RepM (K : PySem.W.Frag) (Fb : Addr → Prop) (m : List Addr) (H : Hp) : List Bool → List V → List D → Prop
  | nil : RepM K Fb m H [] [] []
  | val {v d bs vs ds} : Rep K Fb m H v d → RepM K Fb m H bs vs ds → RepM K Fb m H (false :: bs) (v :: vs) (d :: ds)
  | bor {v d bs vs ds} : RepW K Fb m H v d → RepM K Fb m H bs vs ds → RepM K Fb m H (true :: bs) (v :: vs) (d :: ds)
def spF (K : PySem.W.Frag) (G : List D → Heap → R D) (modes : List Bool) : Sp := fun vs H Q _ => ∃ Pr hp m ds d hp', Cells K Pr hp m H ∧ RepM K (Pm Pr m) m H modes vs ds ∧ G ds hp = some (.ok d hp') ∧
  ∀ v H' m', Cells K Pr hp' m' H' → Step m H m' H' → Rep K (Pm Pr m') m' H' v d → Q v H'
section
variable {K : PySem.W.Frag} {g : Gh} {env env' : Env} {hp hp' : Heap} {m m' : List Addr} {σ σ' : L2.St} {H H' : Hp} {Fb Fb' : Addr → Prop} {bs : List Bool} {vs : List V} {ds : List D}
theorem RepM.len (r : RepM K Fb m H bs vs ds) : vs.length = bs.length ∧ ds.length = bs.length := by
  induction r with
  | nil => exact ⟨rfl, rfl⟩
  | val _ _ ih => exact ⟨congrArg (· + 1) ih.1, congrArg (· + 1) ih.2⟩
  | bor _ _ ih => exact ⟨congrArg (· + 1) ih.1, congrArg (· + 1) ih.2⟩
theorem RepW.fb (h : ∀ a, Fb' a ↔ Fb a) {v : V} {d : D} (r : RepW K Fb m H v d) : RepW K Fb' m H v d := by
  rw [show Fb' = Fb from funext fun a => propext (h a)]
  exact r
theorem RepM.fb (h : ∀ a, Fb' a ↔ Fb a) (r : RepM K Fb m H bs vs ds) : RepM K Fb' m H bs vs ds := by
  rw [show Fb' = Fb from funext fun a => propext (h a)]
  exact r
theorem RepM.step (hm : ∀ a ∈ m, ∃ vs, H a = some (.lst vs)) (s : Step m H m' H') (r : RepM K (Fbd g env σ m) m H bs vs ds) : RepM K (Fbd g env σ m') m' H' bs vs ds := by
  induction r with
  | nil => exact .nil
  | val h _ ih => exact .val (h.step hm s) ih
  | bor h _ ih => exact .bor (h.step hm s) ih
theorem RepM.get {i : Nat} {b : Bool} (r : RepM K Fb m H bs vs ds) (h : bs[i]? = some b) : ∃ v d, vs[i]? = some v ∧ ds[i]? = some d ∧ (b = false → Rep K Fb m H v d) ∧ (b = true → RepW K Fb m H v d) := by
  induction r generalizing i with
  | nil => simp at h
  | val q _ ih =>
    cases i with
    | zero =>
      cases h
      exact ⟨_, _, rfl, rfl, fun _ => q, fun z => Bool.noConfusion z⟩
    | succ i => exact ih h
  | bor q _ ih =>
    cases i with
    | zero =>
      cases h
      exact ⟨_, _, rfl, rfl, fun z => Bool.noConfusion z, fun _ => q⟩
    | succ i => exact ih h
theorem RepM.perm (r : RepM K Fb m H bs vs ds) : ∀ {perm : List Nat} {cs : List Bool} {es : List D}, perm.mapM (bs[·]?) = some cs → perm.mapM (ds[·]?) = some es → ∃ ws, perm.mapM (vs[·]?) = some ws ∧ RepM K Fb m H cs ws es
  | [], cs, es, h1, h2 => by
    simp only [List.mapM_nil] at h1 h2
    cases h1
    cases h2
    exact ⟨[], rfl, .nil⟩
  | i :: perm, cs, es, h1, h2 => by
    rw [List.mapM_cons] at h1 h2
    obtain ⟨b, hb, h1⟩ := Option.bind_eq_some_iff.mp h1
    obtain ⟨cs', hc, h1⟩ := Option.bind_eq_some_iff.mp h1
    obtain ⟨d, hd, h2⟩ := Option.bind_eq_some_iff.mp h2
    obtain ⟨es', he, h2⟩ := Option.bind_eq_some_iff.mp h2
    cases h1
    cases h2
    obtain ⟨ws, hw, rr⟩ := r.perm hc he
    obtain ⟨v, d', hv, hd', k1, k2⟩ := r.get hb
    rw [hd] at hd'
    cases hd'
    refine ⟨v :: ws, by rw [List.mapM_cons, hv, hw]; rfl, ?_⟩
    cases b with
    | false => exact .val (k1 rfl) rr
    | true => exact .bor (k2 rfl) rr
theorem pm_fbd : Pm (fun a => g.Pr a ∨ isOwn env σ a) m = Fbd g env σ m := by
  funext a
  unfold Pm Fbd
  rw [or_assoc]
/-- a callee's Cells, from a caller's state -/
theorem StRel.out (S : StRel K g env hp m σ H) : Cells K (fun a => g.Pr a ∨ isOwn env σ a) hp m H := by
  refine ⟨S.cells, fun k xs h => ?_, S.nd, fun a z => z.elim (S.pr a) fun z => ?_, S.tabs⟩
  · rw [pm_fbd]
    exact S.cell k xs h
  · obtain ⟨vs, e⟩ := S.at_own z
    rw [e]
    simp
/-- behind a call -/
theorem StRel.after (S : StRel K g env hp m σ H) (st : Step m H m' H') (C : Cells K (fun a => g.Pr a ∨ isOwn env σ a) hp' m' H') : StRel K g env hp' m' σ H' := by
  have hm : ∀ a ∈ m, ∃ vs, H a = some (.lst vs) := fun a h => S.at_m h
  refine ⟨S.len, fun i x hx => ?_, S.apart, C.cells, fun k xs h => ?_, C.nd, fun a h => C.pr a (.inl h), fun a o h n nt => ?_, ?_, C.tabs, fun a h => ?_⟩
  · have := S.slots i x hx
    cases x with
    | none => trivial
    | val d =>
      obtain ⟨v, h1, h2⟩ := this
      exact ⟨v, h1, h2.step hm st⟩
    | own d =>
      obtain ⟨a, vs, ds, h1, h2, h3, h4, h5, h6, h7⟩ := this
      exact ⟨a, vs, ds, h1, h2, st.keep a _ h3 h6, h4.step hm st, h5, st.off h3 h6, h7⟩
    | bor d =>
      obtain ⟨a, vs, ds, h1, h2, h3, h4, h5⟩ := this
      exact ⟨a, vs, ds, h1, h2, h3.step st, h4.step hm st, h5⟩
  · have := C.cell k xs h
    rw [pm_fbd] at this
    exact this
  · refine st.keep a o (S.frame a o h n nt) (fun z => ?_) nt
    obtain ⟨r, e, f⟩ := S.more
    rw [e] at z
    rcases List.mem_append.mp z with z | z
    · exact n z
    · rw [f a z] at h
      cases h
  · obtain ⟨r, e, f⟩ := S.more
    obtain ⟨r', e', f'⟩ := st.more
    refine ⟨r ++ r', by rw [e', e, List.append_assoc], fun a z => ?_⟩
    rcases List.mem_append.mp z with z | z
    · exact f a z
    · exact (S.new (f' a z)).1
  · cases q : H a with
    | none => exact absurd q (S.has a h)
    | some o =>
      obtain ⟨o', h'⟩ := st.there a o q
      rw [h']
      simp
theorem zipParam_get : ∀ (ms : List Bool) (ds : List D) (i : Nat) (x : Sl), (List.zipWith param ms ds)[i]? = some x → ∃ b d, ms[i]? = some b ∧ ds[i]? = some d ∧ x = param b d
  | b :: ms, d :: ds, 0, x, h => ⟨b, d, rfl, rfl, (Option.some.inj h).symm⟩
  | b :: ms, d :: ds, i + 1, x, h => zipParam_get ms ds i x h
  | [], _, _, _, k => by simp at k
  | _ :: _, [], _, _, h => by simp at h
theorem startEnv_get {f : Fn} {i : Nat} {x : Sl} (hl : ds.length = f.modes.length) (h : (startEnv f ds)[i]? = some x) : (∃ b d, f.modes[i]? = some b ∧ ds[i]? = some d ∧ x = param b d) ∨ x = .none := by
  unfold startEnv at h
  by_cases hi : i < (List.zipWith param f.modes ds).length
  · rw [List.getElem?_append_left hi] at h
    exact .inl (zipParam_get _ _ _ _ h)
  · rw [List.getElem?_append_right (Nat.le_of_not_lt hi), List.getElem?_replicate] at h
    split at h
    · exact .inr (Option.some.inj h).symm
    · cases h
theorem start_rel {Pr : Addr → Prop} {f : Fn} {N : List Str} (C : Cells K Pr hp m H) (hl : ds.length = f.modes.length) (r : RepM K (Pm Pr m) m H f.modes vs ds) (hs : f.slots = N.length) (hle : f.modes.length ≤ N.length) : StRel K ⟨Pr, H, m⟩ (startEnv f ds) hp m (start N vs) H := by
  obtain ⟨l1, l2⟩ := r.len
  have np : ∀ (i : Nat) (d : D), (startEnv f ds)[i]? ≠ some (.own d) := fun i d h => by
    rcases startEnv_get hl h with ⟨b, e, _, _, z⟩ | z
    · cases b with
      | false => cases z
      | true => cases e <;> cases z
    · cases z
  have fb : Fbd ⟨Pr, H, m⟩ (startEnv f ds) (start N vs) m = Pm Pr m := by
    funext a
    unfold Fbd Pm
    refine propext ⟨fun z => ?_, fun z => z.imp id .inr⟩
    rcases z with z | ⟨i, d, z, _⟩ | z
    · exact .inl z
    · exact absurd z (np i d)
    · exact .inr z
  have sg : ∀ {i : Nat} {v : V}, vs[i]? = some v → (start N vs)[i]? = some (some v) := fun {i v} h => by
    have hi : i < vs.length := (List.getElem?_eq_some_iff.mp h).1
    unfold L2.start
    rw [List.getElem?_append_left (by rw [List.length_map]; exact hi), List.getElem?_map, h]
    rfl
  refine ⟨?_, fun i x h => ?_, fun i j d e a h => absurd h (np i d), C.cells, fun k xs h => ?_, C.nd, C.pr, fun a o h _ _ => h, ⟨[], by simp, by simp⟩, C.tabs, fun a h => h⟩
  · unfold startEnv L2.start
    rw [List.length_append, List.length_append, List.length_map, List.length_replicate, List.length_replicate, List.length_zipWith, hs]
    omega
  · rcases startEnv_get hl h with ⟨b, d, hb, hd, rfl⟩ | rfl
    · obtain ⟨v, d', hv, hd', k1, k2⟩ := r.get hb
      rw [hd] at hd'
      cases hd'
      have val : Rep K (Pm Pr m) m H v d → SlotOk K ⟨Pr, H, m⟩ (startEnv f ds) m (start N vs) H i (.val d) := fun q => ⟨v, sg hv, by rw [fb]; exact q⟩
      cases b with
      | false => exact val (k1 rfl)
      | true =>
        have q := k2 rfl
        cases d with
        | lst es =>
          have hb : ∃ a ws, v = .ref a ∧ Bor K m H a ws ∧ RepL K (Pm Pr m) m H ws es := by
            cases q with
            | of q =>
              cases q with
              | lst h1 n q => exact ⟨_, _, rfl, .inl ⟨.inl h1, fun z => n (.inr z)⟩, q⟩
            | lst h q => exact ⟨_, _, rfl, h, q⟩
          obtain ⟨a, ws, rfl, h1, h2⟩ := hb
          refine ⟨a, ws, es, sg hv, rfl, h1, by rw [fb]; exact h2, fun z => ?_⟩
          have z : H a = none := z
          rcases h1 with ⟨h | ⟨o, h⟩, _⟩ | h
          · rw [z] at h
            cases h
          · rw [z] at h
            cases h
          · exact h
        | _ =>
          cases q with
          | of q => exact val q
    · trivial
  · rw [fb]
    exact C.cell k xs h
end
/-- a def of the text does what the evaluator says -/
theorem fnE_of {P : Program} {w : World} {K : PySem.W.Frag} {mg : Str → Option Value} {base : PySem.Heap} {k : Nat} {f : Addr} {fd : FuncData} {ps N : List Str} {name qual : Str} {st : Stmt} {fn : Fn} {Γ : Nat → List D → Heap → R D} (F : Fun K name qual st f fd) (sc : FnScope N ps (defScope st))
    (hs : fn.slots = N.length) (hm : fn.modes.length = ps.length) (hle : ps.length ≤ N.length)
    (hbody : ∀ (cd : Value) (B : Around) (frs : List PySem.Env) (t : Shared) (M : Hp) (W : XK), Room k (B.deeper (envOfC qual (defScope st) t.heap.objs.size f cd)) → (B.deeper (envOfC qual (defScope st) t.heap.objs.size f cd)).guards = some [] →
      PSs (cxOf CX0 P w K mg base N qual (defScope st) f cd B frs t M W).nox (defBody st) (tSs K Γ fn.body)) : FnG P w K mg base CX0 (k + 1) f fd ps (spF K (evFn reprL Γ fn) fn.modes) := by
  refine fnG_of F sc (fun vs M Q W ⟨Pr, hp, m, ds, d, hp', C, r, _⟩ => r.len.1.trans hm) fun cd B frs t M vs Q W room hgu h => ⟨_, (hbody cd B frs t M W room hgu).nox, ?_⟩
  obtain ⟨Pr, hp, m, ds, d, hp', C, r, ev, q⟩ := h
  have hl : ds.length = fn.modes.length := r.len.2
  unfold evFn at ev
  rw [if_pos hl] at ev
  obtain ⟨fl, h1, e1, ev⟩ := bind_some ev
  refine ⟨⟨Pr, M, m⟩, _, hp, m, start_rel C hl r hs (by omega), fl, h1, e1, ?_⟩
  have done : ∀ {env' : Env} {σ' : L2.St} {H' : Hp} {m' : List Addr}, StRel K ⟨Pr, M, m⟩ env' h1 m' σ' H' → SStep (startEnv fn ds) (start N vs) m M env' σ' m' H' → Cells K Pr h1 m' H' ∧ Step m M m' H' := fun {env' σ' H' m'} S' st =>
    ⟨⟨S'.cells, fun k xs h => by
      obtain ⟨a, vs, z1, z2, z3⟩ := S'.cell k xs h
      exact ⟨a, vs, z1, z2, z3.less fun a z => z.imp id .inr⟩, S'.nd, S'.pr, S'.tabs⟩, ⟨S'.more, fun a o h n nt => S'.frame a o h n nt, st.there, st.tabs⟩⟩
  cases fl with
  | nx env' =>
    obtain ⟨rfl, rfl⟩ := rok_inj (show some (Out.ok D.non h1) = some (.ok d hp') from ev)
    exact fun σ' H' m' S' st => q .non H' m' (done S' st).1 (done S' st).2 .non
  | ret d' =>
    obtain ⟨rfl, rfl⟩ := rok_inj (show some (Out.ok d' h1) = some (.ok d hp') from ev)
    exact fun v env' σ' H' m' S' st rv => q v H' m' (done S' st).1 (done S' st).2 rv
  | _ => cases ev
/-! ### calls of own defs -/
def tMs (K : PySem.W.Frag) (Γ : Nat → List D → Heap → R D) (g : Gh) (bs : List Bool) (cs : List E) : TA := fun σ H Q => ∃ env hp m, StRel K g env hp m σ H ∧ ∃ ds hp', evEs reprL Γ cs env hp = some (.ok ds hp') ∧
  ∀ vs H' m', StRel K g env hp' m' σ H' → Step m H m' H' → RepM K (Fbd g env σ m') m' H' bs vs ds → Q vs H'
section
variable {X : Cx} {Γ : Nat → List D → Heap → R D} {g : Gh} {k : Nat} {f : Addr} {fd : FuncData} {ps ks : List Str} {x : Str} {p pos : Pos} {e : Expr} {es : List Expr} {kws : List Keyword} {c : E} {cs : List E} {bs modes : List Bool} {i : Nat}
theorem ms_nil : PA X [] (tMs X.K Γ g [] []) := paWeak pa_nil fun σ H Q ⟨env, hp, m, S, ds, hp', ev, q⟩ => by
  obtain ⟨rfl, rfl⟩ := rok_inj (show some (Out.ok [] hp) = some (.ok ds hp') from ev)
  exact q _ _ m S Step.refl .nil
theorem ms_val (h : PE X e (tE X.K Γ g c)) (hs : PA X es (tMs X.K Γ g bs cs)) (ns : notStar e = true) : PA X (e :: es) (tMs X.K Γ g (false :: bs) (c :: cs)) :=
  paWeak (pa_cons h hs (star_cons ns es X.env)) fun σ H Q ⟨env, hp, m, S, ds, hp', ev, q⟩ => by
    obtain ⟨x, h1, e1, ev⟩ := bind_some (show R.bind (evE reprL Γ c env hp) _ = _ from ev)
    obtain ⟨xs, h2, e2, ev⟩ := bind_some ev
    obtain ⟨rfl, rfl⟩ := rok_inj ev
    exact ⟨env, hp, m, S, x, h1, e1, fun v1 H1 m1 S1 st1 r1 => ⟨env, h1, m1, S1, xs, h2, e2, fun vs H2 m2 S2 st2 r2 => q _ H2 m2 S2 (st1.trans st2) (.val (r1.step (fun a h => S1.at_m h) st2) r2)⟩⟩
theorem ms_bor (h : PE X e (tV X.K Γ g c)) (hs : PA X es (tMs X.K Γ g bs cs)) (ns : notStar e = true) : PA X (e :: es) (tMs X.K Γ g (true :: bs) (c :: cs)) :=
  paWeak (pa_cons h hs (star_cons ns es X.env)) fun σ H Q ⟨env, hp, m, S, ds, hp', ev, q⟩ => by
    obtain ⟨x, h1, e1, ev⟩ := bind_some (show R.bind (evE reprL Γ c env hp) _ = _ from ev)
    obtain ⟨xs, h2, e2, ev⟩ := bind_some ev
    obtain ⟨rfl, rfl⟩ := rok_inj ev
    exact ⟨env, hp, m, S, x, h1, e1, fun v1 H1 m1 S1 st1 r1 => ⟨env, h1, m1, S1, xs, h2, e2, fun vs H2 m2 S2 st2 r2 => q _ H2 m2 S2 (st1.trans st2) (.bor (r1.step (fun a h => S1.at_m h) st2) r2)⟩⟩
theorem pkWeak {kws : List Keyword} {t t' : TA} (h : PK X kws t) (i : ∀ σ H Q, t' σ H Q → t σ H Q) : PK X kws t' := ⟨fun pos pins s σ H Q I q => h.run pos pins s σ H Q I (i _ _ _ q)⟩
theorem mk_nil : PK X [] (tMs X.K Γ g [] []) := pkWeak pk_nil fun σ H Q ⟨env, hp, m, S, ds, hp', ev, q⟩ => by
  obtain ⟨rfl, rfl⟩ := rok_inj (show some (Out.ok [] hp) = some (.ok ds hp') from ev)
  exact q _ _ m S Step.refl .nil
theorem mk_val {nm : Option Str} {kp : Pos} (h : PE X e (tE X.K Γ g c)) (hs : PK X kws (tMs X.K Γ g bs cs)) : PK X (⟨nm, e, kp⟩ :: kws) (tMs X.K Γ g (false :: bs) (c :: cs)) :=
  pkWeak (pk_cons h hs) fun σ H Q ⟨env, hp, m, S, ds, hp', ev, q⟩ => by
    obtain ⟨x, h1, e1, ev⟩ := bind_some (show R.bind (evE reprL Γ c env hp) _ = _ from ev)
    obtain ⟨xs, h2, e2, ev⟩ := bind_some ev
    obtain ⟨rfl, rfl⟩ := rok_inj ev
    exact ⟨env, hp, m, S, x, h1, e1, fun v1 H1 m1 S1 st1 r1 => ⟨env, h1, m1, S1, xs, h2, e2, fun vs H2 m2 S2 st2 r2 => q _ H2 m2 S2 (st1.trans st2) (.val (r1.step (fun a h => S1.at_m h) st2) r2)⟩⟩
theorem mk_bor {nm : Option Str} {kp : Pos} (h : PE X e (tV X.K Γ g c)) (hs : PK X kws (tMs X.K Γ g bs cs)) : PK X (⟨nm, e, kp⟩ :: kws) (tMs X.K Γ g (true :: bs) (c :: cs)) :=
  pkWeak (pk_cons h hs) fun σ H Q ⟨env, hp, m, S, ds, hp', ev, q⟩ => by
    obtain ⟨x, h1, e1, ev⟩ := bind_some (show R.bind (evE reprL Γ c env hp) _ = _ from ev)
    obtain ⟨xs, h2, e2, ev⟩ := bind_some ev
    obtain ⟨rfl, rfl⟩ := rok_inj ev
    exact ⟨env, hp, m, S, x, h1, e1, fun v1 H1 m1 S1 st1 r1 => ⟨env, h1, m1, S1, xs, h2, e2, fun vs H2 m2 S2 st2 r2 => q _ H2 m2 S2 (st1.trans st2) (.bor (r1.step (fun a h => S1.at_m h) st2) r2)⟩⟩
/-- the callee's promise, from the caller's state -/
theorem sp_of {G : List D → Heap → R D} {env : Env} {hp hp' : Heap} {m : List Addr} {σ : L2.St} {H : Hp} {vs : List V} {ds : List D} {d : D} {Q : VK} {W : XK} (S : StRel X.K g env hp m σ H) (r : RepM X.K (Fbd g env σ m) m H modes vs ds) (ev : G ds hp = some (.ok d hp'))
    (q : ∀ v H' m', StRel X.K g env hp' m' σ H' → Step m H m' H' → Rep X.K (Fbd g env σ m') m' H' v d → Q v H') : spF X.K G modes vs H Q W := by
  refine ⟨fun a => g.Pr a ∨ isOwn env σ a, hp, m, ds, d, hp', S.out, by rw [pm_fbd]; exact r, ev, fun v H' m' C st rv => ?_⟩
  rw [pm_fbd] at rv
  exact q v H' m' (S.after st C) st rv
theorem e_call (F : FnG X.prog X.w X.K X.mg X.base CX0 k f fd ps (spF X.K (Γ i) modes)) (room : Room k X.A) (hgu : X.A.guards = some []) (hg : Gl X x) (hm : X.mg x = some (.ref f)) (hk : PySem.W.keepIn X.K (.ref f) = true) (hb : Binds X.K fd ps [])
    (ha : PA X (e :: es) (tMs X.K Γ g modes cs)) (hdb : (x == ("__debug__" : Str)) = false) (ns : notStar e = true) (hpl : (backTo pos (starEach es X.env)).any (·.1) = false) : PE X (.Call (.Name x p) (e :: es) [] pos) (tE X.K Γ g (.call i cs)) :=
  peWeak (pe_callG F room hgu pass0 hg hm hk hb ha hdb (star_cons ns es X.env) hpl) fun σ H Q ⟨env, hp, m, S, d, hp', ev, q⟩ => by
    obtain ⟨ds, h1, e1, ev⟩ := bind_some (show R.bind (evEs reprL Γ cs env hp) _ = _ from ev)
    exact ⟨env, hp, m, S, ds, h1, e1, fun vs H1 m1 S1 st1 r1 => sp_of S1 r1 ev fun v H' m' S' st' r' => q v H' m' S' (st1.trans st') r'⟩
theorem e_call0 (F : FnG X.prog X.w X.K X.mg X.base CX0 k f fd ps (spF X.K (Γ i) [])) (room : Room k X.A) (hgu : X.A.guards = some []) (hg : Gl X x) (hm : X.mg x = some (.ref f)) (hk : PySem.W.keepIn X.K (.ref f) = true) (hb : Binds X.K fd ps [])
    (hdb : (x == ("__debug__" : Str)) = false) : PE X (.Call (.Name x p) [] [] pos) (tE X.K Γ g (.call i [])) :=
  peWeak (pe_callG0 F room hgu pass0 hg hm hk hb hdb) fun σ H Q ⟨env, hp, m, S, d, hp', ev, q⟩ => sp_of S .nil ev q
theorem mapM_append_get {α : Type} {xs ys : List α} {n : Nat} (h : xs.length = n) : ∀ i : Nat, (xs ++ ys)[i]? = if i < n then xs[i]? else ys[i - n]? := fun i => by
  subst h
  by_cases hi : i < xs.length
  · rw [if_pos hi, List.getElem?_append_left hi]
  · rw [if_neg hi, List.getElem?_append_right (Nat.le_of_not_lt hi)]
theorem evEs_append : ∀ {cs cs' : List E} {env : Env} {hp hp' : Heap} {ds : List D}, evEs reprL Γ (cs ++ cs') env hp = some (.ok ds hp') → ∃ d1 h1 d2, evEs reprL Γ cs env hp = some (.ok d1 h1) ∧ evEs reprL Γ cs' env h1 = some (.ok d2 hp') ∧ ds = d1 ++ d2
  | [], cs', env, hp, hp', ds, e => ⟨[], hp, ds, rfl, e, rfl⟩
  | c :: cs, cs', env, hp, hp', ds, e => by
    obtain ⟨x, h1, e1, ev⟩ := bind_some (show R.bind (evE reprL Γ c env hp) _ = _ from e)
    obtain ⟨xs, h2, e2, ev⟩ := bind_some ev
    obtain ⟨rfl, rfl⟩ := rok_inj ev
    obtain ⟨d1, h3, d2, k1, k2, rfl⟩ := evEs_append e2
    refine ⟨x :: d1, h3, d2, ?_, k2, rfl⟩
    show R.bind (evE reprL Γ c env hp) _ = _
    rw [e1]
    show R.bind (evEs reprL Γ cs env h1) _ = _
    rw [k1]
    rfl
theorem RepM.append {K : PySem.W.Frag} {Fb : Addr → Prop} {m : List Addr} {H : Hp} {b1 b2 : List Bool} {v1 v2 : List V} {d1 d2 : List D} (r1 : RepM K Fb m H b1 v1 d1) (r2 : RepM K Fb m H b2 v2 d2) : RepM K Fb m H (b1 ++ b2) (v1 ++ v2) (d1 ++ d2) := by
  induction r1 with
  | nil => exact r2
  | val h _ ih => exact .val h ih
  | bor h _ ih => exact .bor h ih
theorem evE_callK {i : Nat} {perm : List Nat} {cs : List E} {env : Env} {hp hp' : Heap} {d : D} (ev : evE reprL Γ (.callK i perm cs) env hp = some (.ok d hp')) : ∃ ds h1 es, evEs reprL Γ cs env hp = some (.ok ds h1) ∧ perm.mapM (ds[·]?) = some es ∧ Γ i es h1 = some (.ok d hp') := by
  obtain ⟨ds, h1, e1, ev⟩ := bind_some (show R.bind (evEs reprL Γ cs env hp) _ = _ from ev)
  cases hp : perm.mapM (ds[·]?) with
  | none =>
    rw [hp] at ev
    cases ev
  | some es =>
    rw [hp] at ev
    exact ⟨ds, h1, es, e1, hp, ev⟩
theorem e_callK {perm : List Nat} {cs2 : List E} {b1 b2 : List Bool} (F : FnG X.prog X.w X.K X.mg X.base CX0 k f fd ps (spF X.K (Γ i) modes)) (room : Room k X.A) (hgu : X.A.guards = some []) (hg : Gl X x) (hm : X.mg x = some (.ref f)) (hk : PySem.W.keepIn X.K (.ref f) = true) (hb : KB X.K fd ps cs.length ks perm)
    (hbs : perm.mapM ((b1 ++ b2)[·]?) = some modes) (hl2 : cs2.length = ks.length)
    (ha : PA X (e :: es) (tMs X.K Γ g b1 cs)) (hkw : PK X kws (tMs X.K Γ g b2 cs2)) (hall : (backToKw pos (keywordEach kws X.env)).all (·.1.isSome) = true) (hks : (backToKw pos (keywordEach kws X.env)).filterMap (·.1) = ks)
    (hdb : (x == ("__debug__" : Str)) = false) (ns : notStar e = true) (hpl : ((backTo pos (starEach (e :: es) X.env)).any (·.1) || (backToKw pos (keywordEach kws X.env)).any (·.1.isNone)) = false) :
    PE X (.Call (.Name x p) (e :: es) kws pos) (tE X.K Γ g (.callK i perm (cs ++ cs2))) :=
  peWeak (pe_callKG F room hgu pass0 hg hm hk hb ha hkw ⟨hall, hks⟩ hdb (star_cons ns es X.env) hpl) fun σ H Q ⟨env, hp, m, S, d, hp', ev, q⟩ => by
    obtain ⟨ds, h1, es', e1, hperm, ev⟩ := evE_callK ev
    obtain ⟨d1, h2, d2, k1, k2, rfl⟩ := evEs_append e1
    refine ⟨env, hp, m, S, d1, h2, k1, fun vs H1 m1 S1 st1 r1 => ⟨env, h2, m1, S1, d2, h1, k2, fun zs H2 m2 S2 st2 r2 => ?_⟩⟩
    have r := (r1.step (fun a h => S1.at_m h) st2).append r2
    obtain ⟨ws, hw, rr⟩ := r.perm hbs hperm
    refine ⟨?_, ?_, ws, hw, sp_of S2 rr ev fun v H' m' S' st' r' => q v H' m' S' ((st1.trans st2).trans st') r'⟩
    · rw [r1.len.1, ← r1.len.2, evEs_len k1]
    · rw [r2.len.1, ← r2.len.2, evEs_len k2, hl2]
theorem e_callK0 {perm : List Nat} (F : FnG X.prog X.w X.K X.mg X.base CX0 k f fd ps (spF X.K (Γ i) modes)) (room : Room k X.A) (hgu : X.A.guards = some []) (hg : Gl X x) (hm : X.mg x = some (.ref f)) (hk : PySem.W.keepIn X.K (.ref f) = true) (hb : KB X.K fd ps 0 ks perm)
    (hbs : perm.mapM (bs[·]?) = some modes) (hl2 : cs.length = ks.length) (hkw : PK X kws (tMs X.K Γ g bs cs)) (hall : (backToKw pos (keywordEach kws X.env)).all (·.1.isSome) = true) (hks : (backToKw pos (keywordEach kws X.env)).filterMap (·.1) = ks)
    (hdb : (x == ("__debug__" : Str)) = false) (hpl : ((backTo pos (starEach [] X.env)).any (·.1) || (backToKw pos (keywordEach kws X.env)).any (·.1.isNone)) = false) : PE X (.Call (.Name x p) [] kws pos) (tE X.K Γ g (.callK i perm cs)) :=
  peWeak (pe_callKG0 F room hgu pass0 hg hm hk hb hkw ⟨hall, hks⟩ hdb hpl) fun σ H Q ⟨env, hp, m, S, d, hp', ev, q⟩ => by
    obtain ⟨ds, h1, es', e1, hperm, ev⟩ := evE_callK ev
    refine ⟨env, hp, m, S, ds, h1, e1, fun zs H2 m2 S2 st2 r2 => ?_⟩
    obtain ⟨ws, hw, rr⟩ := r2.perm hbs hperm
    refine ⟨?_, ws, hw, sp_of S2 rr ev fun v H' m' S' st' r' => q v H' m' S' (st2.trans st') r'⟩
    rw [r2.len.1, ← r2.len.2, evEs_len e1, hl2]
end
end Ev
end

section
set_option Elab.async false
set_option linter.all false
set_option maxRecDepth 100000
namespace Ev
open PySem L2 PyProof.Rows
variable [TabList]
/-! ### built-in calls -/
section
variable {X : Cx} {Γ : Nat → List D → Heap → R D} {g : Gh} {x : Str} {p pos : Pos} {e e2 : Expr} {c c2 : E} {o : Op1} {id : String}
theorem e_b1 (hc : CallR X (.builtin id) (rC1 X.K reprL o)) (hg : Gl X x) (hm : X.mg x = none) (hv : bootBuiltins x = some (.builtin id)) (hn : x ≠ "__name__") (hdb : (x == ("__debug__" : Str)) = false) (h : PE X e (tV X.K Γ g c)) (ns : notStar e = true) :
    PE X (.Call (.Name x p) [e] [] pos) (tE X.K Γ g (.op1 o c)) :=
  peWeak (pe_callB hc hg hm hv (pa_cons h pa_nil (star_cons ns [] X.env)) hn hdb (star_cons ns [] X.env) rfl) fun σ H Q q => by
    obtain ⟨env, hp, m, S, d, hp', ev, q⟩ := sE_op1 q
    exact ⟨env, hp, m, S, d, hp', ev, fun v H1 m1 S1 st1 r1 => ⟨v, rfl, q v H1 m1 S1 st1 r1⟩⟩
theorem e_t1 (hc : CallR X (.type id) (rC1 X.K reprL o)) (hg : Gl X x) (hm : X.mg x = none) (hv : bootBuiltins x = some (.type id)) (hn : x ≠ "__name__") (hdb : (x == ("__debug__" : Str)) = false) (h : PE X e (tV X.K Γ g c)) (ns : notStar e = true) :
    PE X (.Call (.Name x p) [e] [] pos) (tE X.K Γ g (.op1 o c)) :=
  peWeak (pe_callTy hc hg hm hv (pa_cons h pa_nil (star_cons ns [] X.env)) hn hdb (star_cons ns [] X.env) rfl) fun σ H Q q => by
    obtain ⟨env, hp, m, S, d, hp', ev, q⟩ := sE_op1 q
    exact ⟨env, hp, m, S, d, hp', ev, fun v H1 m1 S1 st1 r1 => ⟨v, rfl, q v H1 m1 S1 st1 r1⟩⟩
theorem e_max2 (hcm : X.calm = true) (hg : Gl X "max") (hm : X.mg "max" = none) (h : PE X e (tV X.K Γ g c)) (h2 : PE X e2 (tV X.K Γ g c2)) (ns : notStar e = true) (ns2 : notStar e2 = true) : PE X (.Call (.Name "max" p) [e, e2] [] pos) (tE X.K Γ g (.op2 .max c c2)) :=
  peWeak (pe_callB (call_max2 hcm) hg hm PyProof.Rows.boot_max (pa_cons h (pa_cons h2 pa_nil (star_cons ns2 [] X.env)) (star_cons ns [e2] X.env)) (by decide) (by decide) (star_cons ns [e2] X.env) (by rw [star_cons ns2]; rfl)) fun σ H Q ⟨env, hp, m, S, d, hp', ev, q⟩ => by
    obtain ⟨u, h1, w, u', w', e1, e2, d1, d2, ho⟩ := evE_op2 ev
    cases u' <;> cases w' <;> simp only [o2, reduceCtorEq, Option.some.injEq] at ho
    obtain rfl := deref_int d1
    obtain rfl := deref_int d2
    subst ho
    refine ⟨env, hp, m, S, _, h1, e1, fun v1 H1 m1 S1 st1 r1 => ⟨env, h1, m1, S1, _, hp', e2, fun v2 H2 m2 S2 st2 r2 => ?_⟩⟩
    obtain rfl := r1.v.int_inv
    obtain rfl := r2.v.int_inv
    exact ⟨_, _, rfl, q _ H2 m2 S2 (st1.trans st2) (.int _)⟩
theorem e_min2 (hcm : X.calm = true) (hg : Gl X "min") (hm : X.mg "min" = none) (h : PE X e (tV X.K Γ g c)) (h2 : PE X e2 (tV X.K Γ g c2)) (ns : notStar e = true) (ns2 : notStar e2 = true) : PE X (.Call (.Name "min" p) [e, e2] [] pos) (tE X.K Γ g (.op2 .min c c2)) :=
  peWeak (pe_callB (call_min2 hcm) hg hm PyProof.Rows.boot_min (pa_cons h (pa_cons h2 pa_nil (star_cons ns2 [] X.env)) (star_cons ns [e2] X.env)) (by decide) (by decide) (star_cons ns [e2] X.env) (by rw [star_cons ns2]; rfl)) fun σ H Q ⟨env, hp, m, S, d, hp', ev, q⟩ => by
    obtain ⟨u, h1, w, u', w', e1, e2, d1, d2, ho⟩ := evE_op2 ev
    cases u' <;> cases w' <;> simp only [o2, reduceCtorEq, Option.some.injEq] at ho
    obtain rfl := deref_int d1
    obtain rfl := deref_int d2
    subst ho
    refine ⟨env, hp, m, S, _, h1, e1, fun v1 H1 m1 S1 st1 r1 => ⟨env, h1, m1, S1, _, hp', e2, fun v2 H2 m2 S2 st2 r2 => ?_⟩⟩
    obtain rfl := r1.v.int_inv
    obtain rfl := r2.v.int_inv
    exact ⟨_, _, rfl, q _ H2 m2 S2 (st1.trans st2) (.int _)⟩
/-! isinstance -/
def isaOf : Op1 → Option Str
  | .isTup => some "tuple"
  | .isInt => some "int"
  | .isStr => some "str"
  | .isBool => some "bool"
  | _ => none
theorem rc_isa {T : String} (ho : (o = .isTup ∧ T = "tuple") ∨ (o = .isInt ∧ T = "int") ∨ (o = .isStr ∧ T = "str") ∨ (o = .isBool ∧ T = "bool")) : CallR X (.builtin "isinstance") (fun xs H Q => ∃ x, xs = [x, .ty T] ∧ rO1 X.K reprL o x H Q) := by
  rintro pins s σ H xs us Q I r ⟨x, rfl, Fb, m, d, r', hf, hx, hd, q⟩
  obtain ⟨u, u2, rfl, rx, ry⟩ := vals2 r
  obtain rfl : u2 = .type T := ry
  have pd : D.plain d = true ∧ ∃ b : Bool, r' = .bl b ∧ ((o = .isTup ∧ b = (D.py d).isTuple) ∨ (o = .isInt ∧ b = (D.py d).isInt) ∨ (o = .isStr ∧ b = (D.py d).isStr) ∨ (o = .isBool ∧ b = (D.py d).isBool)) := by
    rcases ho with ⟨rfl, _⟩ | ⟨rfl, _⟩ | ⟨rfl, _⟩ | ⟨rfl, _⟩ <;> simp only [o1, Option.ite_none_right_eq_some, Option.some.injEq] at hd <;> obtain ⟨pd, rfl⟩ := hd <;> refine ⟨pd, _, rfl, ?_⟩ <;> cases d <;> simp [D.isTup, D.isInt, D.isStr, D.isBool, D.py, PyData.isTuple, PyData.isInt, PyData.isStr, PyData.isBool]
  obtain ⟨pd, b, rfl, hb⟩ := pd
  obtain ⟨as, rd⟩ := Dp.reads I _ x u (hx.dp pd) rx
  have fin : ∀ tk, s.toks ≤ tk → EP X pins σ Q (.bool b) { s with toks := tk } := fun tk _ => ⟨.bl b, H, I.tok _, rfl, q _ _ (Evl.Ex.refl _) (.bl _)⟩
  rcases ho with ⟨rfl, rfl⟩ | ⟨rfl, rfl⟩ | ⟨rfl, rfl⟩ | ⟨rfl, rfl⟩ <;> rcases hb with ⟨h, rfl⟩ | ⟨h, rfl⟩ | ⟨h, rfl⟩ | ⟨h, rfl⟩ <;> first | cases h | skip
  · exact PySem.W.isinstance_tuple_data rd fin
  · exact PySem.W.isinstance_int_data rd fin
  · exact PySem.W.isinstance_str_data rd fin
  · exact PySem.W.isinstance_bool_data rd fin
theorem e_isa {T : String} {y : Str} {p2 : Pos} (ho : (o = .isTup ∧ T = "tuple") ∨ (o = .isInt ∧ T = "int") ∨ (o = .isStr ∧ T = "str") ∨ (o = .isBool ∧ T = "bool")) (hg : Gl X "isinstance") (hm : X.mg "isinstance" = none) (hg2 : Gl X y) (hm2 : X.mg y = none) (hv2 : bootBuiltins y = some (.type T)) (hn2 : y ≠ "__name__") (hd2 : (y == ("__debug__" : Str)) = false)
    (h : PE X e (tV X.K Γ g c)) (ns : notStar e = true) : PE X (.Call (.Name "isinstance" p) [e, .Name y p2] [] pos) (tE X.K Γ g (.op1 o c)) :=
  peWeak (pe_callB (rc_isa ho) hg hm PyProof.Rows.boot_isinstance (pa_cons h (pa_cons (pe_bltn (v := .ty T) hg2 hm2 hv2 rfl hn2 hd2) pa_nil rfl) (star_cons ns _ X.env)) (by decide) (by decide) (star_cons ns _ X.env) rfl) fun σ H Q q => by
    obtain ⟨env, hp, m, S, d, hp', ev, q⟩ := sE_op1 q
    exact ⟨env, hp, m, S, d, hp', ev, fun v H1 m1 S1 st1 r1 => ⟨v, rfl, q v H1 m1 S1 st1 r1⟩⟩
end
end Ev
end

section
set_option Elab.async false
set_option linter.all false
set_option maxRecDepth 100000
namespace Ev
open PySem L2 PyProof.Rows PySem.W
/-! ### sorted(s), s a set of tuples of ints -/
section
variable {P : Program} {w : World}
def tupI (k : List Int) : PyData := .tuple (k.map .int)
theorem reads_ints {h : PySem.Heap} : ∀ {k : List Int} {us : List Value}, ItemsAre (intKind P w) k us → ReadsAll h us (k.map .int) []
  | _, _, .nil => .nil
  | _, _, .cons (k := k0) h1 t => by
    obtain ⟨tk, rfl⟩ := Value.isInt_shape h1
    exact .cons (as := []) (bs := []) (.int k0 tk) (reads_ints t)
theorem reads_tup {h : PySem.Heap} {k : List Int} {b : Addr} (x : IsT P w h k b) : Reads h (.ref b) (tupI k) [] := by
  have ⟨_, _, _, at_, kind, data, all⟩ := x
  exact .tuple at_ kind data (reads_ints all)
/-- a list whose image is a rearrangement of L's image is the image of a rearrangement of L -/
theorem perm_pull {α β : Type} {f : α → β} {xs ys : List β} (h : xs.Perm ys) : ∀ L : List α, ys = L.map f → ∃ L1 : List α, xs = L1.map f ∧ L1.Perm L := by
  induction h with
  | nil => exact fun L e => ⟨[], rfl, by rw [List.map_eq_nil_iff.mp e.symm]⟩
  | cons x _ ih =>
    intro L e
    cases L with
    | nil => cases e
    | cons q L =>
      obtain ⟨L1, f1, f2⟩ := ih L (List.cons.inj e).2
      exact ⟨q :: L1, by rw [f1, (List.cons.inj e).1, List.map_cons], f2.cons q⟩
  | swap x y l =>
    intro L e
    match L, e with
    | q :: r :: L, e =>
      have e1 := List.cons.inj e
      have e2 := List.cons.inj e1.2
      exact ⟨r :: q :: L, by rw [e1.1, e2.1, e2.2, List.map_cons, List.map_cons], .swap q r L⟩
  | trans _ _ ih1 ih2 =>
    intro L e
    obtain ⟨L2, f1, f2⟩ := ih2 L e
    obtain ⟨L1, f3, f4⟩ := ih1 L2 f1
    exact ⟨L1, f3, f4.trans f2⟩
theorem alike_keys : ∀ k k' : List Int, alikeAll (k.map PyData.int) (k'.map PyData.int) = true
  | [], _ => rfl
  | _ :: _, [] => rfl
  | _ :: k, _ :: k' => alike_keys k k'
theorem depth_keys : ∀ k : List Int, PyData.depthAll (k.map PyData.int) = 0
  | [] => rfl
  | _ :: k => (Nat.zero_max _).trans (depth_keys k)
/-- what stands in the one heap stands in the other -/
abbrev Keeps (h h' : PySem.Heap) : Prop := ∀ b o, h.get? b = some o → h'.get? b = some o
/-- the order in which tuples of ints are sorted -/
abbrev leQ (x y : Addr × List Int) : Bool := !dataLt (tupI y.2) (tupI x.2)
abbrev refsQ (L : List (Addr × List Int)) : List Value := L.map fun q => Value.ref q.1
theorem each_refs {R : Value → Addr × List Int → Prop} : ∀ {L : List (Addr × List Int)}, (∀ q ∈ L, R (.ref q.1) q) → EachIs R (refsQ L) L
  | [], _ => .nil
  | _ :: _, h => .cons (h _ List.mem_cons_self) (each_refs fun q hq => h q (List.mem_cons_of_mem _ hq))
theorem refs_each {us : List Value} {L : List (Addr × List Int)} (h : EachIs (fun v (q : Addr × List Int) => v = .ref q.1) us L) : us = refsQ L := by
  induction h with
  | nil => rfl
  | cons e _ ih => exact congr (congrArg _ e) ih
/-- what sorted(s) leaves: a list at the top, of the set's tuples in their order -/
structure SortedSet (s z : Shared) (L : List (Addr × List Int)) (p : Addr) : Prop where
  keeps : Keeps s.heap z.heap
  gens : z.gens = s.gens
  os : z.os = s.os
  top : s.heap.objs.size ≤ p
  list : ∃ (L1 : List (Addr × List Int)) (c : Nat), L1.Perm L ∧ z.heap.get? p = some (seqObj "list" (refsQ (L1.mergeSort leQ)).toArray c)
theorem sorted_set_tuples {A : Around} {a : Addr} {L : List (Addr × List Int)} {rows : Array (Int × Value)} {age : Nat} {tab : SetTable} {s : Shared} {Q E : Value → Shared → Prop} (calm : A.handled = none) (room : A.units + 4 < cLine)
    (R : SetTR P w s.heap a L rows age tab) (q : ∀ z p, SortedSet s z L p → Q (.ref p) z) : wpAny (model P w) A (call (.builtin "sorted") [.ref a]) Q E s := by
  have image : rows.toList.map (·.2) = refsQ L := by
    rw [R.rows]
    exact List.map_map
  have scan : rows.size < scanBound := by
    have n := congrArg List.length image
    rw [List.length_map, List.length_map, Array.length_toList] at n
    have f := R.few
    unfold scanBound
    omega
  obtain ⟨ob, at_, exact_, data⟩ := R.ob
  refine sorted_from (C := fun vs z => Keeps s.heap z.heap ∧ s.heap.objs.size ≤ z.heap.objs.size ∧ z.gens = s.gens ∧ z.os = s.os ∧ vs.Perm (refsQ L))
    (collect_set (A := A.in1) calm ⟨ob, at_, exact_.1, data⟩ R.fits scan R.tab.ris R.led fun z vs k up g o pm => ⟨k, up, g, o, image ▸ pm⟩) ?_
  rintro vs z ⟨k, up, g, o, pm⟩
  obtain ⟨L1, rfl, p1⟩ := perm_pull pm L rfl
  have few : (refsQ L1).length ≤ sizeLine := by
    have f := R.few
    rw [List.length_map, p1.length_eq, sizeLine_eq]
    omega
  generalize hHP : sortingHeap (laidOut z (refsQ L1)) z.heap.objs.size (refsQ L1) = HP
  have reads : EachIs (fun v (q : Addr × List Int) => ∃ as, Reads HP v (tupI q.2) as) (refsQ L1) L1 := each_refs fun q hq =>
    ⟨[], reads_tup (P := P) (w := w) (isT_keep (R.tup q (p1.mem_iff.mp hq)) fun b u e => hHP ▸ (laid_keeps (k b u e)).1)⟩
  have alikes : AllAlike (L1.map fun q => tupI q.2) := fun d hd e he => by
    obtain ⟨x, _, rfl⟩ := List.mem_map.mp hd
    obtain ⟨y, _, rfl⟩ := List.mem_map.mp he
    exact alike_keys x.2 y.2
  have er : EachIs (fun v d => ∃ as, Reads HP v d as) (refsQ L1) (L1.map fun q => tupI q.2) := PySem.W.each_map (R := fun v d => ∃ as, Reads HP v d as) (fun q : Addr × List Int => tupI q.2) reads
  have S : SortsAt P w A.in1.in1 { z with heap := HP } (dataKind HP (L1.map fun q => tupI q.2)) (refsQ L1) := sorts_tup (s := { z with heap := HP }) er alikes (fun d hd => by
    obtain ⟨x, _, rfl⟩ := List.mem_map.mp hd
    exact ⟨_, rfl⟩) fun d hd => by
      obtain ⟨x, _, rfl⟩ := List.mem_map.mp hd
      have two : A.in1.in1.units = A.units + 2 := rfl
      have one : (tupI x.2).depth = 0 + 1 := congrArg (· + 1) (depth_keys x.2)
      omega
  refine ⟨few, _, S, q _ _ ⟨fun b u e => (laid_keeps (k b u e)).2 _, g, o, up, L1, ?_⟩⟩
  have key := each_of_map (fun q : Addr × List Int => tupI q.2) (each_keys alikes er)
  have srt := sortVals_each (κ := dataKind HP (L1.map fun q => tupI q.2)) (rev := false) (fun q : Addr × List Int => (keyToks (tupI q.2) : (dataKind HP (L1.map fun q => tupI q.2)).α)) (each_refs (R := fun v q => v = .ref q.1) fun _ _ => rfl) key
  obtain ⟨c, at_p⟩ := sortedHeap_at (h := laidOut z (refsQ L1)) (a := z.heap.objs.size) (n := 0) (vs := refsQ L1) (out := (sortVals (dataKind HP (L1.map fun q => tupI q.2)) false (refsQ L1) (refsQ L1)).toArray) (Heap.get?_push_size _ rfl)
  exact ⟨c, p1, by rw [at_p, refs_each srt]; rfl⟩
end
end Ev
end

section
set_option Elab.async false
set_option linter.all false
set_option maxRecDepth 100000
namespace Ev
open PySem PySem.Spec L2 PyProof.Rows
/-! ### set(x), x a list or a tuple -/
section
variable {P : Program} {w : World} {s : Shared} {A : Around}
/-- a class is called: its new one is made, then filled -/
theorem class_call {T newId initId : String} (ft : TypeCalled T newId initId) {args : List Value} (takes : checkTypeCall T ⟨args, []⟩ = pure ()) {Made : Value → Shared → Prop} {Q E : Value → Shared → Prop}
    (new : wpAny (model P w) A.in1 (call (.builtin newId) (.type T :: args)) Made E s)
    (fill : ∀ v z, Made v z → z.TypeIs v T ∧ wpAny (model P w) A.in1 (call (.builtin initId) (v :: args)) (fun r y => r = .none ∧ Q v y) E z) : wpAny (model P w) A (call (.type T) args) Q E s := by
  have enter : wpAny (model P w) A.in1 (Builtin.«type.__call__» ⟨.type T :: args, []⟩) (fun f z => ∃ v, f = .done (.ret v) ∧ Q v z) E s := by
    obtain ⟨c, tl, order⟩ := ft.mro
    unfold Builtin.«type.__call__»; dsimp only
    rw [if_neg (Bool.eq_false_iff.mp ft.notType), if_neg (Bool.eq_false_iff.mp ft.canCreate)]
    refine wpAny_bind (wpAny_of_eq takes (wpAny_bind (wpAny_of_eq order ?_)))
    rw [if_neg (fun h => by cases h)]
    refine wpAny_bind (wpAny_of_eq ft.made (wpAny_bind (wpAny_pure (wpAny_bind (wpAny_holding (wpAny_mono new (fun v z m => ?_) fun _ _ e => e))))))
    obtain ⟨type, go⟩ := fill v z m
    refine wpAny_bind (wpAny_isInstance type ft.sub ?_)
    rw [if_neg (by decide)]
    refine wpAny_bind (wpAny_holding (wpAny_callSpecial?_slot type ft.init (wpAny_mono go (fun r y h => ?_) fun _ _ e => e)))
    obtain ⟨rfl, q⟩ := h
    exact wpAny_pure ⟨v, rfl, q⟩
  refine wpAny_call (codeAny_of_tree (wpAny_pure ⟨Code.quiet_builtin _ (by decide +kernel), codeAny_builtin F.entry_type_call ?_⟩))
  have free := Around.under_plain (A := A) (weight_type_call_type T args []) rfl
  refine free ▸ wpAny_mono enter (fun f z h => ?_) fun _ _ e => e
  obtain ⟨v, rfl, q⟩ := h
  exact q
/-- a set that has just been made -/
abbrev newSet0 (w : World) : Obj := { cls := .type "set", dict := none, data := .set #[] 0 (.fresh 0 0 (!w.params.followText "set-order")) }
/-- the heap with it -/
abbrev withSet (w : World) (s : Shared) : PySem.Heap := s.heap.push (newSet0 w)
/-- list or tuple: what a walk over it begins with -/
inductive Seq2 : (T : String) → Addr → Obj → Prop where
  | list (l : Addr) : Seq2 "list" l { cls := .type "list_iterator", data := .fields #[.ref l, .int 0 0] }
  | tuple (l : Addr) : Seq2 "tuple" l { cls := .type "tuple_iterator", data := .fields #[.ref l, .int 0 0] }
/-- it is such, and holds its -/
def Holds2 (h : PySem.Heap) (T : String) (l : Addr) (its : Array Value) : Prop := ∃ o n, h.get? l = some o ∧ o.cls = .type T ∧ o.data = .seq its n
theorem Holds2.push {h : PySem.Heap} {T : String} {l : Addr} {its : Array Value} (x : Holds2 h T l its) (o' : Obj) : Holds2 (h.push o') T l its := by
  obtain ⟨o, n, e, r⟩ := x
  exact ⟨o, n, Heap.get?_push_of_some _ e, r⟩
theorem iter2 {T : String} {l : Addr} {it : Obj} {its : Array Value} (k : Seq2 T l it) {z : Shared} {A' : Around} {Q E : Value → Shared → Prop} (x : Holds2 z.heap T l its) (q : Q (.ref z.heap.objs.size) { z with heap := z.heap.push it }) :
    wpAny (model P w) A' (pyIter (.ref l)) Q E z := by
  obtain ⟨o, n, e, c, d⟩ := x
  cases k with
  | list => exact wpAny_pyIter_list ⟨o, e, c, n, d⟩ q
  | tuple => exact wpAny_pyIter_tuple ⟨o, e, c, n, d⟩ q
/-- set(x) is called -/
abbrev MakesSet (P : Program) (w : World) (A : Around) (l : Addr) (Q E : Value → Shared → Prop) (s : Shared) : Prop := wpAny (model P w) A (call (.type "set") [.ref l]) Q E s
/-- what a walk over a tuple, a list begins with -/
abbrev tupleWalk (l : Addr) : Obj := { cls := .type "tuple_iterator", data := .fields #[.ref l, .int 0 0] }
abbrev listWalk (l : Addr) : Obj := { cls := .type "list_iterator", data := .fields #[.ref l, .int 0 0] }
/-- all of set(x) but the loop that adds the items -/
theorem set_from {T : String} {l : Addr} {it : Obj} {its : Array Value} {Z : Shared → Prop} {Q E : Value → Shared → Prop} (k : Seq2 T l it) (x : Holds2 s.heap T l its)
    (loop : ∀ R : Result → Shared → Prop, (∀ z, Z z → R (.ok (.ret .none)) z) → codeAny (model P w) A.in1.in1 (.builtin "set.update.loop" ⟨[.ref s.heap.objs.size, .ref (withSet w s).objs.size], []⟩) R { s with heap := (withSet w s).push it })
    (q : ∀ z, Z z → Q (.ref s.heap.objs.size) z) : wpAny (model P w) A (call (.type "set") [.ref l]) Q E s := by
  have made : (withSet w s).get? s.heap.objs.size = some (newSet0 w) := Heap.get?_push_size _ rfl
  have there : Holds2 (withSet w s) T l its := x.push _
  have run : wpAny (model P w) A.in1.in1 (Builtin.«set.__init__» ⟨[.ref s.heap.objs.size, .ref l], []⟩) (fun f z => f = .done (.ret .none) ∧ Q (.ref s.heap.objs.size) z) E { s with heap := withSet w s } := by
    have walk : ∀ {A' : Around} {Q' E' : Value → Shared → Prop}, Q' (.ref (withSet w s).objs.size) { s with heap := (withSet w s).push it } → wpAny (model P w) A' (pyIter (.ref l)) Q' E' { s with heap := withSet w s } := fun h => iter2 k there h
    have type : Shared.TypeIs { s with heap := withSet w s } (.ref l) T := let ⟨o, _, at_, c, _⟩ := there; ⟨o, at_, c⟩
    have self : Shared.TypeIs { s with heap := withSet w s } (.ref s.heap.objs.size) "set" := ⟨_, made, rfl⟩
    have other : isSubtype (.type T) (.type "set") = pure false ∧ isSubtype (.type T) (.type "frozenset") = pure false ∧ (Value.type T == Value.type "dict") = false := by
      cases k
      · exact ⟨F.sub_list_set, F.sub_list_frozenset, by decide⟩
      · exact ⟨F.sub_tuple_set, F.sub_tuple_frozenset, by decide⟩
    have fill : wpAny (model P w) A.in1.in1 (Builtin.Frozenset.updateFrom "set.__init__" s.heap.objs.size (.ref l)) (fun _ z => Q (.ref s.heap.objs.size) z) E { s with heap := withSet w s } := by
      have none_of_them : wpAny (model P w) A.in1.in1 (Builtin.Frozenset.isAnySet (.ref l)) (fun b z => b = false ∧ z = { s with heap := withSet w s }) E { s with heap := withSet w s } :=
        wpAny_bind (wpAny_isInstance type other.1 (wpAny_isInstance type other.2.1 ⟨rfl, rfl⟩))
      refine wpAny_bind (wpAny_mono none_of_them (fun b z h => ?_) fun _ _ e => e)
      obtain ⟨rfl, rfl⟩ := h
      rw [if_neg (by decide)]
      refine wpAny_bind (wpAny_typeOf type ?_)
      rw [if_neg (Bool.eq_false_iff.mp other.2.2)]
      exact wpAny_bind (walk (wpAny_bind (wpAny_runValue (loop _ fun z h => wpAny_pure (q z h)))))
    unfold Builtin.«set.__init__» noKeywords
    generalize Builtin.Frozenset.updateFrom = update at fill ⊢
    wp_walk
    exact wpAny_mono fill (fun _ z h => wpAny_pure ⟨rfl, h⟩) fun _ _ e => e
  refine class_call F.called_set (F.typeCall_set_1 _) (Made := fun v z => v = .ref s.heap.objs.size ∧ z = { s with heap := withSet w s }) (wpAny_call (codeAny_mono (code_set_led1 _ ⟨rfl, rfl⟩) fun _ _ h => h)) ?_
  rintro _ _ ⟨rfl, rfl⟩
  refine ⟨⟨_, made, rfl⟩, wpAny_call (codeAny_call_builtin F.called_set.init.plain F.entry_set_init (check_set_init_1 ⟨_, made, rfl⟩ (wpAny_mono run (fun f z h => ?_) fun _ _ e => e)))⟩
  obtain ⟨rfl, h⟩ := h
  exact ⟨rfl, h⟩
/-- below the new set nothing is moved -/
theorem below {w : World} {s : Shared} {b : Addr} (h : b < s.heap.objs.size) : b ≠ s.heap.objs.size ∧ b ≠ (withSet w s).objs.size := by
  have up : (withSet w s).objs.size = s.heap.objs.size + 1 := Heap.size_push ..
  exact ⟨Nat.ne_of_lt h, up ▸ Nat.ne_of_lt (Nat.lt_succ_of_lt h)⟩
theorem no_obj {h : PySem.Heap} {b : Addr} (up : h.objs.size ≤ b) : h.get? b = none := by
  cases e : h.get? b with
  | none => rfl
  | some o => exact (Nat.not_lt.mpr up (Heap.lt_size e)).elim
theorem off_way {w : World} {s : Shared} {l : Addr} (h : l < s.heap.objs.size) : s.heap.objs.size ∉ [(withSet w s).objs.size, l] := fun m => by
  have up : (withSet w s).objs.size = s.heap.objs.size + 1 := Heap.size_push ..
  rw [List.mem_cons, List.mem_singleton, up] at m
  exact m.elim (Nat.ne_of_lt (Nat.lt_succ_self _)) (Nat.ne_of_gt h)
/-- set(x), x a tuple of tuples of ints -/
theorem set_of_tuples {l : Addr} {items : List (Addr × List Int)} {Q E : Value → Shared → Prop} (calm : A.handled = none) (room : A.units + 3 < cLine) (x : s.heap.IsTuple l (refsQ items).toArray) (tups : ∀ p ∈ items, IsT P w s.heap p.2 p.1) (few : items.length < 64)
    (q : ∀ (h' : PySem.Heap) (tk : Nat) (L : List (Addr × List Int)) (rows : Array (Int × Value)) (age : Nat) (tab : SetTable), SetTR P w h' s.heap.objs.size L rows age tab → Got items items.length L → Keeps s.heap h' → Q (.ref s.heap.objs.size) { s with heap := h', toks := tk }) :
    MakesSet P w A l Q E s := by
  have ⟨o, at_, c, n, d⟩ := x
  have lt := Heap.lt_size at_
  have size : (refsQ items).toArray.size = items.length := by rw [List.size_toArray, List.length_map]
  have up : (withSet w s).objs.size = s.heap.objs.size + 1 := Heap.size_push ..
  have set0 : ((withSet w s).push (tupleWalk l)).get? s.heap.objs.size = some (newSet0 w) := Heap.get?_push_of_some _ (Heap.get?_push_size _ rfl)
  refine set_from (it := (tupleWalk l)) (its := (refsQ items).toArray) (.tuple l) ⟨o, n, at_, c, d⟩
    (Z := fun z => ∃ (h' : PySem.Heap) (tk : Nat) (L : List (Addr × List Int)) (rows : Array (Int × Value)) (age : Nat) (tab : SetTable), z = { s with heap := h', toks := tk } ∧ SetTR P w h' s.heap.objs.size L rows age tab ∧ Got items items.length L ∧ Keeps s.heap h') (fun R r => ?_) fun z h => ?_
  · refine set_update_tups (Walks.tuple (A := A.in1.in1.in1) (by simp [calm]) _ l (below lt).2 _).toS s.heap.objs.size (off_way lt) items size few (fun i v h => ?_) s.heap tups (no_obj (Nat.le_refl _)) (fun b hb => no_obj ?_) room (items.length - 0) 0 _ (by rw [size]) (Nat.zero_le _)
      ⟨⟨_, Heap.get?_push_size _ rfl, rfl, rfl⟩, (x.push _).push _⟩ (fun b o e => Heap.get?_push_of_some _ (Heap.get?_push_of_some _ e)) ⟨[], #[], 0, _, setTR_fresh set0, Got.zero items⟩ fun z L rows age tab moved R got keep => r z ?_
    · rw [List.getElem?_toArray, List.getElem?_map] at h
      obtain ⟨p, hp, e⟩ := Option.map_eq_some_iff.mp h
      exact ⟨p, hp, e.symm⟩
    · rw [List.eq_of_mem_singleton hb, up]
      exact Nat.le_succ _
    · refine ⟨z.heap, z.toks, L, rows, age, tab, ?_, R, size ▸ got, keep⟩
      have ⟨g, dr, os⟩ := And.intro moved.gens (And.intro moved.drawn moved.os)
      cases z
      exact congr (congr (congr (congrArg _ g) dr) rfl) os
  · obtain ⟨h', tk, L, rows, age, tab, rfl, R, got, keep⟩ := h
    exact q h' tk L rows age tab R got keep
/-- set(x), x a list of ints -/
theorem set_of_ints {l : Addr} {us : List Value} (is : List Int) {Q E : Value → Shared → Prop} (calm : A.handled = none) (x : s.heap.IsList l us.toArray) (all : IntsAre us is) (few : is.length < 64)
    (q : ∀ (h' : PySem.Heap) (tk c : Nat), SetR w h' s.heap.objs.size (fun j => decide (j ∈ is)) c → c ≤ is.length → Keeps s.heap h' → Q (.ref s.heap.objs.size) { s with heap := h', toks := tk }) :
    MakesSet P w A l Q E s := by
  have ⟨o, at_, c, n, d⟩ := x
  have lt := Heap.lt_size at_
  have size : us.toArray.size = is.length := by rw [List.size_toArray, IntsAre.length all]
  have set0 : ((withSet w s).push (listWalk l)).get? s.heap.objs.size = some (newSet0 w) := Heap.get?_push_of_some _ (Heap.get?_push_size _ rfl)
  refine set_from (it := (listWalk l)) (its := us.toArray) (.list l) ⟨o, n, at_, c, d⟩
    (Z := fun z => ∃ (h' : PySem.Heap) (tk c : Nat), z = { s with heap := h', toks := tk } ∧ SetR w h' s.heap.objs.size (fun j => decide (j ∈ is)) c ∧ c ≤ is.length ∧ Keeps s.heap h') (fun R r => ?_) fun z h => ?_
  · refine set_update_ints (Walks.list (A := A.in1.in1.in1) (by simp [calm]) _ l (below lt).2 _).toS s.heap.objs.size (off_way lt) is size (by unfold scanBound; omega) (fun i v h => ?_) (is.length - 0) 0 _ (by rw [size]) (Nat.zero_le _)
      ⟨⟨_, Heap.get?_push_size _ rfl, rfl, rfl⟩, (x.push _).push _⟩ ⟨0, Nat.le_refl 0, setR_new_at set0⟩ fun z c moved hc R => r z ?_
    · rw [List.getElem?_toArray] at h
      have lt : i < is.length := by
        rw [← IntsAre.length all]
        exact (List.getElem?_eq_some_iff.mp h).choose
      obtain ⟨t, e⟩ := PyProof.Rows.IntsAre.int_at all i v h
      rw [List.getD_eq_getElem?_getD, List.getElem?_eq_getElem lt] at e
      exact ⟨is[i], t, List.getElem?_eq_getElem lt, e⟩
    · refine ⟨z.heap, z.toks, c, ?_, R, size ▸ hc, fun b o e => ?_⟩
      · have ⟨g, dr, os⟩ := And.intro moved.gens (And.intro moved.drawn moved.os)
        cases z
        exact congr (congr (congr (congrArg _ g) dr) rfl) os
      · have apart := below (w := w) (Heap.lt_size e)
        refine moved.heap b o (fun m => ?_) (Heap.get?_push_of_some _ (Heap.get?_push_of_some _ e))
        rcases List.mem_cons.mp m with z | z
        · exact apart.1 z
        · exact apart.2 (List.eq_of_mem_singleton z)
  · obtain ⟨h', tk, c, rfl, R, hc, keep⟩ := h
    exact q h' tk c R hc keep
end
end Ev
end

section
set_option Elab.async false
set_option linter.all false
set_option maxRecDepth 100000
namespace Ev
open PySem PySem.Spec L2 PyProof.Rows PySem.W
/-! ### sorted(set(x)) -/
section
theorem dd_mem {α : Type} [DecidableEq α] {a : α} : ∀ {l : List α}, a ∈ dd l ↔ a ∈ l
  | [] => Iff.rfl
  | x :: l => by
    unfold dd
    split
    · rename_i h
      rw [dd_mem, List.mem_cons]
      exact ⟨.inr, fun z => z.elim (fun e => e ▸ h) id⟩
    · rw [List.mem_cons, List.mem_cons, dd_mem]
theorem dd_nodup {α : Type} [DecidableEq α] : ∀ l : List α, (dd l).Nodup
  | [] => List.nodup_nil
  | x :: l => by
    unfold dd
    split
    · exact dd_nodup l
    · rename_i h
      exact List.nodup_cons.mpr ⟨fun z => h (dd_mem.mp z), dd_nodup l⟩
theorem lt_tri (a b : List Int) : a < b ∨ a = b ∨ b < a := by
  rcases Classical.em (a < b) with h | h
  · exact .inl h
  · rcases Classical.em (b < a) with k | k
    · exact .inr (.inr k)
    · exact .inr (.inl (List.le_antisymm (List.not_lt.mp k) (List.not_lt.mp h)))
theorem leI_total (a b : List Int) : (leI a b || leI b a) = true := by
  unfold leI
  rw [Bool.or_eq_true, Bool.not_eq_true', Bool.not_eq_true', decide_eq_false_iff_not, decide_eq_false_iff_not]
  exact Classical.or_iff_not_imp_left.mpr fun h k => by
    have h := Classical.not_not.mp h
    exact List.lt_irrefl _ (List.lt_trans h k)
theorem leI_le {a b : List Int} : leI a b = true ↔ a ≤ b := by
  unfold leI
  rw [Bool.not_eq_true', decide_eq_false_iff_not]
  exact List.not_lt
theorem leI_trans (a b c : List Int) (h : leI a b = true) (k : leI b c = true) : leI a c = true := leI_le.mpr (List.le_trans (leI_le.mp h) (leI_le.mp k))
theorem leI_anti {a b : List Int} (h : leI a b = true) (k : leI b a = true) : a = b := List.le_antisymm (leI_le.mp h) (leI_le.mp k)
theorem leI_data (a b : List Int) : leI a b = !dataLt (tupI b) (tupI a) := by
  unfold leI
  rw [show dataLt (tupI b) (tupI a) = rowLt (b.map .int) (a.map .int) from dataLt_tuple _ _, dataLt_ints]
/-- the sorted keys, whatever the order in which they came -/
theorem uni_eq {ks : List (List Int)} {L L1 : List (Addr × List Int)} (p : L1.Perm L) (nd : (L.map (·.2)).Nodup) (h1 : ∀ k, k ∈ L.map (·.2) ↔ k ∈ ks) :
    ((L1.mergeSort fun x y => !dataLt (tupI y.2) (tupI x.2)).map fun q => tupD q.2) = ((dd ks).mergeSort leI).map tupD := by
  have e : (L1.mergeSort fun x y => !dataLt (tupI y.2) (tupI x.2)).map (·.2) = (L1.map (·.2)).mergeSort leI := sort_maps (fun q : Addr × List Int => q.2) fun a _ b _ => (leI_data a.2 b.2).symm
  have e2 : ((L1.mergeSort fun x y => !dataLt (tupI y.2) (tupI x.2)).map fun q => tupD q.2) = ((L1.mergeSort fun x y => !dataLt (tupI y.2) (tupI x.2)).map (·.2)).map tupD := by
    rw [List.map_map]
    rfl
  rw [e2, e]
  congr 1
  have nd1 : (L1.map (·.2)).Nodup := ((p.map (·.2)).nodup_iff).mpr nd
  have pm : (L1.map (·.2)).Perm (dd ks) := (List.perm_ext_iff_of_nodup nd1 (dd_nodup ks)).mpr fun k => by rw [(p.map (·.2)).mem_iff, h1, dd_mem]
  refine List.Perm.eq_of_pairwise (le := fun a b => leI a b = true) (fun a b _ _ => leI_anti) (List.pairwise_mergeSort leI_trans leI_total _) (List.pairwise_mergeSort leI_trans leI_total _) ?_
  exact ((List.mergeSort_perm _ _).trans pm).trans (List.mergeSort_perm _ _).symm
theorem ints_uniq {is ns : List Int} (h1 : ns.Pairwise (· < ·)) (h2 : ∀ k, k ∈ ns ↔ k ∈ is) : ns = (dd is).mergeSort fun a b => decide (a ≤ b) := by
  have tot : ∀ a b : Int, (decide (a ≤ b) || decide (b ≤ a)) = true := fun a b => by
    rw [Bool.or_eq_true, decI, decI]
    omega
  have tr : ∀ a b c : Int, decide (a ≤ b) = true → decide (b ≤ c) = true → decide (a ≤ c) = true := fun a b c h k => by
    rw [decI] at h k ⊢
    omega
  have nd : ns.Nodup := h1.imp fun h e => by
    subst e
    exact Int.lt_irrefl _ h
  have pm : ns.Perm (dd is) := (List.perm_ext_iff_of_nodup nd (dd_nodup is)).mpr fun k => by rw [h2, dd_mem]
  refine List.Perm.eq_of_pairwise (le := fun a b : Int => decide (a ≤ b) = true) (fun a b _ _ h k => ?_) (h1.imp fun h => ?_) (List.pairwise_mergeSort tr tot _) (pm.trans (List.mergeSort_perm _ _).symm)
  · rw [decI] at h k
    omega
  · rw [decI]
    omega
variable [TabList]
section
variable {X : Cx} {K : PySem.W.Frag} {Fb : Addr → Prop} {m : List Addr} {H : Hp}
/-- tuples of ints: where they lie -/
theorem keys_rep : ∀ {vs : List V} {ds : List D} {ks : List (List Int)}, RepL K Fb m H vs ds → keys? ds = some ks → ∃ qs : List (Addr × List Int), vs = qs.map (fun q => V.ref q.1) ∧ qs.map (·.2) = ks ∧ ∀ q ∈ qs, SqT K H q.1 (q.2.map V.int)
  | _, _, _, .nil, e => by
    cases e
    exact ⟨[], rfl, rfl, fun q hq => by cases hq⟩
  | _, _, ks, .cons (d := d) (ds := ds) h t, e => by
    obtain ⟨k, e1, e⟩ := Option.bind_eq_some_iff.mp (show (keyI d).bind (fun k => (keys? ds).map (k :: ·)) = some ks from e)
    obtain ⟨ks', e2, rfl⟩ := Option.map_eq_some_iff.mp e
    obtain ⟨qs, f1, f2, f3⟩ := keys_rep t e2
    cases d with
    | tup es =>
      cases h with
      | tup hq r =>
        rename_i a us
        have hu : us = k.map V.int := ints_vs r e1
        subst hu
        refine ⟨(a, k) :: qs, by rw [f1]; rfl, by rw [← f2]; rfl, fun q hm => ?_⟩
        rcases List.mem_cons.mp hm with z | z
        · rw [z]
          exact hq
        · exact f3 q z
    | _ => cases e1
/-- a list or a tuple -/
def Row (K : PySem.W.Frag) (H : Hp) (l : Addr) (vs : List V) : Prop := SqL K H l vs ∨ SqT K H l vs
abbrev vrefs (ks : List (Addr × List Int)) : List V := ks.map fun p => V.ref p.1
/-- tuples of ints, where they lie -/
def AreTups (K : PySem.W.Frag) (H : Hp) (ks : List (Addr × List Int)) : Prop := ∀ p ∈ ks, SqT K H p.1 (p.2.map V.int)
def rSetN (K : PySem.W.Frag) (P : Program) (w : World) : List V → Hp → VK → Prop := fun xs H Q => ∃ l, xs = [V.ref l] ∧
  ((∃ ks, Row K H l (vrefs ks) ∧ AreTups K H ks ∧ ks.length < 64 ∧ ∀ a L, H a = none → L ⊆ ks → ks.map (·.2) ⊆ L.map (·.2) → Q (.ref a) (upd H a (SetTO P w a L))) ∨
   ∃ is : List Int, Row K H l (is.map V.int) ∧ is.length < 64 ∧ ∀ a n, H a = none → n < 64 → Q (.ref a) (upd H a (SetO w a (fun j => decide (j ∈ is)) n)))
/-- a new object is what an expression yields -/
theorem yields_new {pins : List (Addr × Obj)} {σ : L2.St} {s : Shared} {Q : VK} {o : HO} {h' : PySem.Heap} {tk : Nat} (I : L2.Inv X pins σ H s) (keep : Keeps s.heap h') (ok : ObjOk X.prog X.w (upd H s.heap.objs.size o) h' s.heap.objs.size o)
    (q : H s.heap.objs.size = none → Q (.ref s.heap.objs.size) (upd H s.heap.objs.size o)) : EP X pins σ Q (.ref s.heap.objs.size) { s with heap := h', toks := tk } :=
  ⟨.ref s.heap.objs.size, _, I.laid keep (Nat.le_refl _) ok, rfl, q (I.hok.fresh (Nat.le_refl _))⟩
theorem cr_setN (hc : X.calm = true) (hu : X.A.units + 64 < cLine) : CallR X (.type "set") (rSetN X.K X.prog X.w) := by
  rintro pins s σ H _ us Q I r ⟨l, rfl, h⟩
  have calm := I.ok.hd hc
  rw [Vals.ref1 r]
  rcases h with ⟨ks, row, tups, few, q⟩ | ⟨is, row, few, q⟩
  · have here : ∀ p ∈ ks, IsT X.prog X.w s.heap p.2 p.1 := fun p hp => I.isT (tups p hp)
    have out : ∀ (h' : PySem.Heap) (tk : Nat) (L : List (Addr × List Int)) (rows : Array (Int × Value)) (age : Nat) (tab : SetTable), SetTR X.prog X.w h' s.heap.objs.size L rows age tab → Got ks ks.length L → Keeps s.heap h' → EP X pins σ Q (.ref s.heap.objs.size) { s with heap := h', toks := tk } :=
      fun h' tk L rows age tab R got keep => yields_new I keep (setTO_new R.t0) fun free => q _ L free (fun p hp => List.mem_of_mem_take (got.sub p hp)) fun k hk => by
        obtain ⟨p, hp, rfl⟩ := List.mem_map.mp hk
        exact got.all p (by rw [List.take_length]; exact hp)
    rcases row with row | row
    · have ⟨its, rv, cell, _⟩ := I.list row
      exact call_set_tups ks calm cell.isList (by rw [List.toList_toArray]; exact refs_of_vals rv) here few (by omega) out
    · have ⟨its, rv, cell, _⟩ := I.tuple row
      refine set_of_tuples calm (by omega) ?_ here few out
      rw [← show its = refsQ ks from refs_of_vals rv]
      exact cell
  · have out : ∀ (h' : PySem.Heap) (tk c : Nat), SetR X.w h' s.heap.objs.size (fun j => decide (j ∈ is)) c → c ≤ is.length → Keeps s.heap h' → EP X pins σ Q (.ref s.heap.objs.size) { s with heap := h', toks := tk } :=
      fun h' tk c R hc keep => yields_new I keep (setO_new R) fun free => q _ c free (Nat.lt_of_le_of_lt hc few)
    rcases row with row | row
    · have ⟨its, rv, cell, _⟩ := I.list row
      exact set_of_ints is calm cell.isList rv.ints few out
    · have ⟨its, rv, cell, _⟩ := I.tuple row
      exact call_set_tupI is calm cell (by rw [List.toList_toArray]; exact rv.ints) (by unfold scanBound; omega) out
/-- sorted(s), s such a set -/
def rSrtN (K : PySem.W.Frag) (P : Program) (w : World) : List V → Hp → VK → Prop := fun vs H Q => ∃ a, vs = [V.ref a] ∧
  ((∃ L, H a = some (SetTO P w a L) ∧ AreTups K H L ∧ ∀ (L1 : List (Addr × List Int)) (p : Addr), L1.Perm L → (L.map (·.2)).Nodup → H p = none → Q (.ref p) (upd H p (.lst (vrefs (L1.mergeSort leQ))))) ∨
   rSortedSet w vs H Q)
theorem cr_srtN (hc : X.calm = true) (hu : X.A.units + 64 < cLine) : CallR X (.builtin "sorted") (rSrtN X.K X.prog X.w) := by
  rintro pins s σ H _ us Q I r ⟨a, rfl, ⟨L, set, tups, q⟩ | plain⟩
  · obtain ⟨rows, age, tab, R⟩ := SetT0.full (I.hok a _ set).1 fun p hp => I.isT (tups p hp)
    rw [Vals.ref1 r]
    refine sorted_set_tuples (I.ok.hd hc) (by omega) R fun z p done => ?_
    obtain ⟨L1, c, pm, at_p⟩ := done.list
    have free : H p = none := I.hok.fresh done.top
    have few : (vrefs (L1.mergeSort leQ)).length ≤ sizeLine := by
      have f := R.few
      rw [List.length_map, List.length_mergeSort, pm.length_eq, sizeLine_eq]
      omega
    have laid := I.call' (ch := []) (H' := upd H p (.lst (vrefs (L1.mergeSort leQ)))) done.os (Un.laid done.keeps done.top free) (I.hok.laid done.keeps done.top ⟨few, _, c, vals_of_refs _, at_p⟩) (done.gens ▸ I.bare) nofun
    exact ⟨.ref p, _, laid, rfl, q L1 p pm R.nd free⟩
  · exact cr_sortedSet hc pins s σ H _ us Q I r plain
end
section
variable {X : Cx} {Γ : Nat → List D → Heap → R D} {g : Gh} {K : PySem.W.Frag} {Fb : Addr → Prop} {m : List Addr} {H : Hp}
theorem ints_reps : ∀ ns : List Int, RepL K Fb m H (ns.map V.int) (ns.map D.int)
  | [] => .nil
  | _ :: ns => .cons (.int _) (ints_reps ns)
theorem refs_reps : ∀ qs : List (Addr × List Int), (∀ q ∈ qs, SqT K H q.1 (q.2.map V.int)) → RepL K Fb m H (qs.map fun q => V.ref q.1) (qs.map fun q => tupD q.2)
  | [], _ => .nil
  | q :: qs, h => .cons (.tup (h q List.mem_cons_self) (ints_reps q.2)) (refs_reps qs fun r hr => h r (List.mem_cons_of_mem _ hr))
theorem ext_upd {a : Addr} {o : HO} (h : H a = none) : Ext H (upd H a o) := fun b u e => by
  rw [upd_ne fun z => by rw [z, h] at e; cases e]
  exact e
theorem uni_step {v : V} {x r : D} {Q : VK} (P : Program) (w : World) (hf : ∀ a, Fb a → H a ≠ none) (hx : RepV K Fb m H v x) (ho : o1 reprL .sset x = some r) (qq : ∀ v H', Ext H H' → Rep K Fb m H' v r → Q v H') :
    rSetN K P w [v] H fun u H2 => rSrtN K P w [u] H2 Q := by
  have key : ∀ (a : Addr) (vs : List V) (ds es : List D), v = .ref a → uniL ds = some es → r = .lst es → RepL K Fb m H vs ds → (SqL K H a vs ∨ SqT K H a vs) → rSetN K P w [v] H fun u H2 => rSrtN K P w [u] H2 Q := by
    rintro a vs ds es rfl hu rfl rv hs
    unfold uniL at hu
    split at hu
    · rename_i hl
      have hvl : vs.length < 64 := by rw [rv.length]; exact hl
      split at hu
      · rename_i is hi
        obtain rfl := Option.some.inj hu
        have e := ints_vs rv hi
        subst e
        refine ⟨a, rfl, .inr ⟨is, hs, by simpa using hvl, fun b n hb hn => ⟨b, rfl, .inr ⟨b, _, n, rfl, upd_same .., hn, fun ns p pw mem len hp => ?_⟩⟩⟩⟩
        have hpH : H p = none := by
          cases q : H p with
          | none => rfl
          | some o =>
            rw [ext_upd hb p o q] at hp
            cases hp
        refine qq _ _ (fun b' u e => ext_upd hp b' u (ext_upd hb b' u e)) ?_
        rw [← ints_uniq pw fun k => by rw [mem k, decI]]
        exact rep_new_lst (fun a h => has_upd (hf a h)) hp (ints_reps ns)
      · obtain ⟨ks, hk, rfl⟩ := Option.map_eq_some_iff.mp hu
        obtain ⟨qs, rfl, f2, f3⟩ := keys_rep rv hk
        refine ⟨a, rfl, .inl ⟨qs, hs, f3, by simpa using hvl, fun b L hb s1 s2 => ⟨b, rfl, .inl ⟨L, upd_same .., fun q hq => Evl.ex_t (ext_upd hb) (f3 q (s1 hq)), fun L1 p pm nd hp => ?_⟩⟩⟩⟩
        refine qq _ _ (fun b' u e => ext_upd hp b' u (ext_upd hb b' u e)) ?_
        rw [← uni_eq (ks := ks) pm nd fun k => ?_]
        · refine rep_new_lst (fun a h => has_upd (hf a h)) hp (refs_reps _ fun q hq => ?_)
          have h1 : q ∈ L := pm.mem_iff.mp ((List.mergeSort_perm _ _).mem_iff.mp hq)
          exact Evl.ex_t (ext_upd hb) (f3 q (s1 h1))
        · rw [← f2]
          refine ⟨fun h => ?_, fun h => s2 h⟩
          obtain ⟨q, hq, e⟩ := List.mem_map.mp h
          exact List.mem_map.mpr ⟨q, s1 hq, e⟩
    · cases hu
  cases x with
  | lst ds =>
    obtain ⟨es, hs, rfl⟩ := Option.map_eq_some_iff.mp (show (uniL ds).map D.lst = some r from ho)
    obtain ⟨a, vs, rfl, hv, rv⟩ := hx.lst_inv
    exact key a vs ds es rfl hs rfl rv (.inl hv)
  | tup ds =>
    obtain ⟨es, hs, rfl⟩ := Option.map_eq_some_iff.mp (show (uniL ds).map D.lst = some r from ho)
    obtain ⟨a, vs, rfl, hv, rv⟩ := hx.tup_inv
    exact key a vs ds es rfl hs rfl rv (.inr hv)
  | _ => cases ho
theorem e_sset {e : Expr} {c : E} {p p2 pos pos2 : Pos} (hc : X.calm = true) (hu : X.A.units + 66 < cLine) (hg : Gl X "sorted") (hm : X.mg "sorted" = none) (hg2 : Gl X "set") (hm2 : X.mg "set" = none) (h : PE X e (tV X.K Γ g c)) (ns : notStar e = true) :
    PE X (.Call (.Name "sorted" p) [.Call (.Name "set" p2) [e] [] pos2] [] pos) (tE X.K Γ g (.op1 .sset c)) :=
  peWeak (pe_callB (cr_srtN hc (by omega)) hg hm (by decide +kernel) (pa_cons (pe_callTy (cr_setN hc (by omega)) hg2 hm2 PyProof.Rows.boot_set (pa_cons h pa_nil (star_cons ns [] X.env)) (by decide) (by decide) (star_cons ns [] X.env) rfl) pa_nil rfl) (by decide) (by decide) rfl rfl) fun σ H Q q => by
    obtain ⟨env, hp, m, S, d, hp', ev, q⟩ := sE_op1 q
    refine ⟨env, hp, m, S, d, hp', ev, fun v H1 m1 S1 st1 r1 => ?_⟩
    obtain ⟨Fb, m2, x, r, hf, hx, ho, qq⟩ := q v H1 m1 S1 st1 r1
    exact uni_step X.prog X.w hf hx ho qq
end
end
end Ev
end

section
set_option Elab.async false
set_option linter.all false
set_option maxRecDepth 100000
namespace Ev
open PySem L2 PyProof.Rows
variable [TabList]
/-! ### the checker: what is known of a def ahead -/
structure Sig where
  name : Str
  idx : Nat
  modes : List Bool
  ps : List Str
  kbl : List (Nat × List Str × List Nat)
structure Ck where
  N : List Str
  sc : Scope
  fn : Str → Bool
  fns : List Sig
  cons : List (Str × D)
  blts : List Str
structure FnFact (Γ : Nat → List D → Heap → R D) (X : Cx) (s : Sig) : Prop where
  ex : ∃ k f fd, FnG X.prog X.w X.K X.mg X.base CX0 k f fd s.ps (spF X.K (Γ s.idx) s.modes) ∧ Room k X.A ∧ X.mg s.name = some (.ref f) ∧ PySem.W.keepIn X.K (.ref f) = true ∧ Binds X.K fd s.ps [] ∧ ∀ q ∈ s.kbl, KB X.K fd s.ps q.1 q.2.1 q.2.2
structure Good (Γ : Nat → List D → Heap → R D) (X : Cx) (ck : Ck) : Prop where
  N : X.N = ck.N
  nd : X.N.Nodup
  sc : X.env.scope = ck.sc
  fn : X.fn = ck.fn
  calm : X.calm = true
  gu : X.A.guards = some []
  un : X.A.units + 66 < cLine
  blt : ∀ x ∈ ck.blts, X.mg x = none
  fns : ∀ s ∈ ck.fns, FnFact Γ X s
  cons : ∀ p ∈ ck.cons, ∃ v u, X.mg p.1 = some u ∧ RelV v u ∧ ∀ Fb m H, Rep X.K Fb m H v p.2
def Ck.blk (ck : Ck) (scope : Scope) : Ck := { ck with sc := relS scope ck.sc, fn := fun x => scope.names.lookup x == some .cell }
theorem Good.blk {Γ : Nat → List D → Heap → R D} {X : Cx} {ck : Ck} (G : Good Γ X ck) (s : Shared) (H : Hp) (scope : Scope) (cl : List (Str × Addr)) (C : Addr) (fp : List Addr) : Good Γ (X.blk s H scope (compEnvC scope cl C X.env) fp) (ck.blk scope) := by
  refine ⟨G.N, G.nd, ?_, rfl, G.calm, G.gu, G.un, G.blt, fun s hs => ⟨(G.fns s hs).ex⟩, G.cons⟩
  show relS scope X.env.scope = relS scope ck.sc
  rw [G.sc]
/-! names -/
def okName (x : Str) : Bool := !(x == ("__debug__" : Str)) && !(x == ("__classdict__" : Str))
def Ck.vis (ck : Ck) (i : Nat) (x : Str) : Bool := decide (ck.N[i]? = some x) && (match ck.sc.names.lookup x with | some .local => true | some .cell => true | some .free => true | _ => false) && okName x
def Ck.loc (ck : Ck) (i : Nat) (x : Str) : Bool := decide (ck.N[i]? = some x) && (match ck.sc.names.lookup x with | some .local => true | some .cell => ck.fn x | _ => false)
def Ck.gl (ck : Ck) (x : Str) : Bool := (match ck.sc.names.lookup x with | some .globalImplicit => true | _ => false) && okName x
def Ck.blt (ck : Ck) (x : Str) : Bool := ck.gl x && decide (x ∈ ck.blts)
section
variable {Γ : Nat → List D → Heap → R D} {X : Cx} {ck : Ck}
theorem okName_of {x : Str} (h : okName x = true) : (x == ("__debug__" : Str)) = false ∧ (x == ("__classdict__" : Str)) = false := by
  unfold okName at h
  simpa using h
theorem Good.vis (G : Good Γ X ck) {i : Nat} {x : Str} (h : ck.vis i x = true) : X.N[i]? = some x ∧ Vis X.env.scope x ∧ (x == ("__debug__" : Str)) = false ∧ (x == ("__classdict__" : Str)) = false := by
  unfold Ck.vis at h
  simp only [andI, decI] at h
  obtain ⟨⟨h1, h2⟩, h3⟩ := h
  obtain ⟨h4, h5⟩ := okName_of h3
  refine ⟨by rw [G.N]; exact h1, ?_, h4, h5⟩
  unfold Vis
  rw [G.sc]
  split at h2
  · exact .inl (by assumption)
  · exact .inr (.inl (by assumption))
  · exact .inr (.inr (by assumption))
  · cases h2
theorem Good.loc (G : Good Γ X ck) {i : Nat} {x : Str} (h : ck.loc i x = true) : X.N[i]? = some x ∧ Loc X.env.scope x ∧ (X.fn x = true ∨ X.env.scope.names.lookup x = some .local) := by
  unfold Ck.loc at h
  simp only [andI, decI] at h
  obtain ⟨h1, h2⟩ := h
  refine ⟨by rw [G.N]; exact h1, ?_⟩
  unfold L2.Loc
  rw [G.sc, G.fn]
  split at h2
  · rename_i e
    exact ⟨.inl e, .inr e⟩
  · rename_i e
    exact ⟨.inr e, .inl h2⟩
  · cases h2
theorem Good.gl (G : Good Γ X ck) {x : Str} (h : ck.gl x = true) : Gl X x ∧ (x == ("__debug__" : Str)) = false := by
  unfold Ck.gl at h
  simp only [andI] at h
  obtain ⟨h1, h2⟩ := h
  refine ⟨?_, (okName_of h2).1⟩
  show X.env.scope.names.lookup x = _
  rw [G.sc]
  split at h1
  · assumption
  · cases h1
theorem Good.isBlt (G : Good Γ X ck) {x : Str} (h : ck.blt x = true) : Gl X x ∧ X.mg x = none := by
  unfold Ck.blt at h
  simp only [andI, decI] at h
  exact ⟨(G.gl h.1).1, G.blt x h.2⟩
/-! operators -/
def binOf : Operator → Option Op2
  | .Add => some .add
  | .Sub => some .sub
  | .Mult => some .mul
  | .FloorDiv => some .fdiv
  | .Mod => some .mod
  | .Pow => some .pow
  | _ => none
def cmpOf : CmpOp → Option Op2
  | .Eq => some .eq
  | .NotEq => some .ne
  | .Lt => some .lt
  | .LtE => some .le
  | .Gt => some .gt
  | .GtE => some .ge
  | .Is => some .is
  | .IsNot => some .isnot
  | .In => some .inn
  | .NotIn => some .nin
theorem bin_ok {op : Operator} {o : Op2} (h : binOf op = some o) : OpR X (binaryOp op) (rO2 X.K o) := by
  cases op <;> simp only [binOf, reduceCtorEq, Option.some.injEq] at h <;> subst h
  · exact ro_add
  · exact ro_sub
  · exact ro_mul
  · exact ro_mod
  · exact ro_pow
  · exact ro_fdiv
theorem cmp_ok (hu : X.A.units + 66 < cLine) {op : CmpOp} {o : Op2} (h : cmpOf op = some o) : OpR X (compareOp op) (rO2 X.K o) := by
  cases op <;> simp only [cmpOf, Option.some.injEq] at h <;> subst h
  · exact ro_eq hu
  · exact ro_ne hu
  · exact ro_lt
  · exact ro_le
  · exact ro_gt
  · exact ro_ge
  · exact ro_is
  · exact ro_isnot
  · exact ro_in hu
  · exact ro_nin hu
/-! shapes -/
def notSlice : Expr → Bool
  | .Slice .. => false
  | _ => true
theorem plainIx_of {e : Expr} (h : notSlice e = true) : PlainIx e := by
  cases e <;> first | exact fun _ _ => rfl | cases h
def notSet : Expr → Bool
  | .Set .. => false
  | _ => true
theorem notSet_ok {e : Expr} (h : notSet e = true) (env : PySem.Env) : ∀ x, foldedSetIterable e env x = pure x := by
  cases e <;> first | exact fun _ => rfl | cases h
def notComp : Expr → Bool
  | .ListComp .. | .SetComp .. | .DictComp .. => false
  | _ => true
theorem notComp_ok {e : Expr} (h : notComp e = true) (t : Option Expr) (l : Nat) (env : PySem.Env) : swapsWith e t l env = pure false := by
  cases e <;> first | rfl | cases h
/-- a test by its value -/
def testPlain : Expr → Bool
  | .BoolOp .. | .IfExp .. | .Compare .. => false
  | .UnaryOp .Not _ _ => false
  | _ => true
theorem testPlain_ok {e : Expr} (h : testPlain e = true) (env : PySem.Env) (whole : Sem Value) : PySem.isTrue e env whole = (do let v ← whole; standAt e.pos; holding [v] (truthy v)) := by
  cases e <;> first | rfl | cases h | skip
  rename_i op e p
  cases op <;> first | rfl | cases h
theorem star_all : ∀ {es : List Expr}, es.all notStar = true → ∀ (pos : Pos) (env : PySem.Env), (backTo pos (starEach es env)).any (·.1) = false
  | [], _, _, _ => rfl
  | e :: es, h, pos, env => by
    simp only [List.all_cons, andI] at h
    rw [star_cons h.1]
    exact star_all h.2 pos env
theorem kw_all : ∀ {kws : List Keyword} {ks : List Str}, kws.map (·.arg) = ks.map some → ∀ (pos : Pos) (env : PySem.Env), (backToKw pos (keywordEach kws env)).all (·.1.isSome) = true ∧ (backToKw pos (keywordEach kws env)).filterMap (·.1) = ks ∧ (backToKw pos (keywordEach kws env)).any (·.1.isNone) = false
  | [], [], _, _, _ => ⟨rfl, rfl, rfl⟩
  | [], _ :: _, h, _, _ => by cases h
  | _ :: _, [], h, _, _ => by cases h
  | ⟨nm, e, kp⟩ :: kws, k :: ks, h, pos, env => by
    simp only [List.cons.injEq, List.map_cons] at h
    obtain ⟨h1, h2⟩ := h
    subst h1
    obtain ⟨a1, a2, a3⟩ := kw_all h2 pos env
    refine ⟨?_, ?_, ?_⟩
    · show (true && _) = true
      exact a1
    · show k :: _ = k :: ks
      rw [← a2]
      rfl
    · show (false || _) = false
      exact a3
theorem e_neg {e : Expr} {c : E} {g : Gh} {pos : Pos} (he : PE X e (tV X.K Γ g c)) : PE X (.UnaryOp .USub e pos) (tE X.K Γ g (.op1 .neg c)) :=
  peWeak (pe_un un_neg he) fun σ H Q q => by
    obtain ⟨env, hp, m, S, d, hp', ev, q'⟩ := sE_op1 q
    refine ⟨env, hp, m, S, d, hp', ev, fun v H1 m1 S1 st1 r1 => ?_⟩
    obtain ⟨Fb, m2, x, r, hf, hx, ho, qq⟩ := q' v H1 m1 S1 st1 r1
    cases x <;> simp only [o1, reduceCtorEq, Option.some.injEq] at ho
    subst ho
    obtain rfl := hx.int_inv
    exact ⟨_, rfl, qq _ _ (Evl.Ex.refl _) (.int _)⟩
/-! targets -/
mutual
def chkTg (ck : Ck) : Tg → Expr → Bool
  | .name i, .Name x _ => ck.loc i x
  | .tup ts, .Tuple es _ _ => chkTgs ck ts es
  | _, _ => false
def chkTgs (ck : Ck) : List Tg → List Expr → Bool
  | [], [] => true
  | t :: ts, e :: es => chkTg ck t e && chkTgs ck ts es
  | _, _ => false
end
theorem asgEach_cons {e : Expr} (h : notStar e = true) (es : List Expr) (env : PySem.Env) : assignEach (e :: es) env = (false, assign e env) :: assignEach es env := by
  cases e <;> first | rfl | cases h
theorem asgEach_ok : ∀ {es : List Expr}, es.all notStar = true → ∀ env : PySem.Env, (assignEach es env).length = es.length ∧ (assignEach es env).findIdx? (·.1) = none
  | [], _, _ => ⟨rfl, rfl⟩
  | e :: es, h, env => by
    simp only [List.all_cons, andI] at h
    obtain ⟨a1, a2⟩ := asgEach_ok h.2 env
    rw [asgEach_cons h.1]
    refine ⟨by simp [a1], ?_⟩
    rw [List.findIdx?_cons]
    simp [a2]
theorem chkTg_star {t : Tg} {e : Expr} (h : chkTg ck t e = true) : notStar e = true := by
  cases t <;> cases e <;> first | rfl | (simp [chkTg] at h)
theorem chkTgs_star : ∀ {ts : List Tg} {es : List Expr}, chkTgs ck ts es = true → es.all notStar = true ∧ es.length = ts.length
  | [], [], _ => ⟨rfl, rfl⟩
  | [], _ :: _, h => by simp [chkTgs] at h
  | _ :: _, [], h => by simp [chkTgs] at h
  | t :: ts, e :: es, h => by
    simp only [chkTgs, Bool.and_eq_true] at h
    obtain ⟨a1, a2⟩ := chkTgs_star h.2
    refine ⟨?_, by simp [a2]⟩
    rw [List.all_cons, chkTg_star h.1, a1]
    rfl
mutual
theorem tg_sound (G : Good Γ X ck) : ∀ {t : Tg} {e : Expr}, chkTg ck t e = true → PG X e (gT X.K t)
  | .name i, e, h => by
    cases e <;> simp only [chkTg, reduceCtorEq] at h
    obtain ⟨h1, h2, h3⟩ := G.loc h
    exact g_name G.nd h1 h2 h3
  | .tup ts, e, h => by
    cases e <;> simp only [chkTg, reduceCtorEq] at h
    obtain ⟨a1, a2⟩ := chkTgs_star h
    obtain ⟨b1, b2⟩ := asgEach_ok a1 X.env
    exact g_tup G.calm (tgs_sound G h) (b1.trans a2) b2
theorem tgs_sound (G : Good Γ X ck) : ∀ {ts : List Tg} {es : List Expr}, chkTgs ck ts es = true → PGs X es (gTs X.K ts)
  | [], [], _ => g_nil
  | [], _ :: _, h => by simp [chkTgs] at h
  | _ :: _, [], h => by simp [chkTgs] at h
  | t :: ts, e :: es, h => by
    simp only [chkTgs, Bool.and_eq_true] at h
    exact g_cons (tg_sound G h.1) (tgs_sound G h.2) (asgEach_cons (chkTg_star h.1) _ _)
end
/-- a target's names and slots -/
def tgOwn : Nat → Expr → List Str
  | _, .Name x _ => [x]
  | n + 1, .Tuple es _ _ => es.flatMap (tgOwn n)
  | _, _ => []
def ownOf (ck : Ck) (slots : List Nat) : List (Str × Nat) := slots.map fun i => (ck.N.getD i "", i)
theorem ownOf_snd {slots : List Nat} : (ownOf ck slots).map (·.2) = slots := by
  unfold ownOf
  rw [List.map_map]
  exact List.map_id' _
end
end Ev
end

section
set_option Elab.async false
set_option linter.all false
set_option maxRecDepth 100000
namespace Ev
open PySem L2 PyProof.Rows
variable [TabList]
/-! ### the checker of expressions -/
inductive Md where
  | e | v | t | f | i (b : Bool) | w (b : Bool)
  deriving DecidableEq
def Md.plain (md : Md) (x : Expr) : Bool := match md with
  | .f => false
  | .t => testPlain x
  | _ => true
def nameIs (x : Expr) (p : Str → Bool) : Bool := match x with
  | .Name y _ => p y
  | _ => false
def cstOk (ck : Ck) (d : D) (x : Expr) : Bool := match d, x with
  | .int i, .Constant (.int j) _ _ => decide (i = j)
  | .bl i, .Constant (.bool j) _ _ => decide (i = j)
  | .str i, .Constant (.str j) _ _ => decide (i = j)
  | .non, .Constant .none _ _ => true
  | .str i, .Name y _ => ck.gl y && ck.cons.any fun p => decide (p.1 = y) && (match p.2 with | .str j => decide (i = j) | _ => false)
  | _, _ => false
/-- a constant of the module, by its place -/
def bltNm : Op1 → Option (Str × Bool)
  | .len => some ("len", true)
  | .sorted => some ("sorted", true)
  | .sum => some ("sum", true)
  | .any => some ("any", true)
  | .all => some ("all", true)
  | .abs => some ("abs", true)
  | .repr => some ("repr", true)
  | .tuple => some ("tuple", false)
  | .list => some ("list", false)
  | .int => some ("int", false)
  | _ => none
def isWalk : Md → Bool
  | .i _ => true
  | _ => false
def Md.b : Md → Bool
  | .i b => b
  | .w b => b
  | _ => false
def isTupT : Expr → Bool
  | .Tuple .. => true
  | _ => false
def notCall : Expr → Bool
  | .Call .. => false
  | _ => true
def noE : Expr := .Constant .none 0 ⟨0, 0, 0, 0⟩
def writeModes (modes : List Bool) (perm : List Nat) (n : Nat) : List Bool := (List.range n).map fun t => ((perm.zip modes).find? fun p => p.1 == t).elim false (·.2)
mutual
def chk (ck : Ck) (md : Md) (te : Expr) : E → Expr → Bool
  | .cst d, x => cstOk ck d x && md.plain x
  | .var n, x => nameIs x (ck.vis n) && md.plain x
  | .view n, x => nameIs x (ck.vis n) && (match md with | .v => true | .w false => true | .i false => true | _ => false)
  | .peek n, x => nameIs x (ck.vis n) && (match md with | .v => true | .w _ => true | .i _ => true | _ => false)
  | .tup cs, x => (match x with
      | .Tuple es _ _ => decide (cs.length ≤ 1000) && chkEs ck cs es
      | _ => false) && md.plain x
  | .lst cs, x => (match x with
      | .List es _ => decide (cs.length ≤ 1000) && chkEs ck cs es
      | _ => false) && (md.plain x || md == .f)
  | .cell a, x => chk ck .f noE a x && md.plain x
  | .op1 o a, x => (match o, x with
      | .neg, .UnaryOp .USub y _ => chk ck .v noE a y && md.plain x
      | .not, .UnaryOp .Not y _ => if md = .t then chk ck .t noE a y else (chk ck .v noE a y && md.plain x)
      | .rev, .Subscript y (.Slice none none (some (.UnaryOp .USub (.Constant (.int k) _ _) _)) _) _ => decide (k = 1) && chk ck .v noE a y && (md.plain x || md == .f)
      | .range, .Call (.Name nm _) [y] [] _ => decide (nm = "range") && ck.blt nm && notStar y && isWalk md && chk ck .v noE a y
      | .sset, .Call (.Name nm _) [.Call (.Name n2 _) [y] [] _] [] _ => decide (nm = "sorted") && decide (n2 = "set") && ck.blt nm && ck.blt n2 && notStar y && chk ck .v noE a y && md.plain x
      | o, .Call (.Name nm _) [y] [] _ => (match bltNm o with | some (z, _) => decide (nm = z) | none => false) && ck.blt nm && notStar y && chk ck .v noE a y && md.plain x
      | o, .Call (.Name nm _) [y, .Name ty _] [] _ => decide (nm = "isinstance") && decide (isaOf o = some ty) && ck.blt nm && ck.blt ty && notStar y && chk ck .v noE a y && md.plain x
      | _, _ => false)
  | .op2 o a b, x => (match x with
      | .BinOp y op z _ => decide (binOf op = some o) && chk ck .v noE a y && chk ck .v noE b z && md.plain x
      | .Compare y [op] [z] _ => decide (cmpOf op = some o) && !(behindInMarks op z) && chk ck .v noE a y && chk ck .v noE b z && (md == .t || md.plain x)
      | .Subscript y (.Slice (some z) none none _) _ => decide (o = .sfrom) && chk ck .v noE a y && chk ck .v noE b z && md.plain x
      | .Subscript y (.Slice none (some z) none _) _ => decide (o = .sto) && chk ck .v noE a y && chk ck .v noE b z && md.plain x
      | .Subscript y z _ => decide (o = .ix) && notSlice z && chk ck .v noE a y && chk ck .v noE b z && md.plain x
      | .Call (.Attribute y nm ap) [z] [] cp => decide (o = .join) && decide (nm = "join") && (ap.endLine == cp.line) && notCall y && notStar z && chk ck .v noE a y && chk ck .v noE b z && md.plain x
      | .Call (.Name nm _) [y, z] [] _ => ck.blt nm && notStar y && notStar z && chk ck .v noE a y && chk ck .v noE b z &&
          (match o with
            | .range => decide (nm = "range") && isWalk md
            | .max => decide (nm = "max") && md.plain x
            | .min => decide (nm = "min") && md.plain x
            | _ => false)
      | _ => false)
  | .op3 o a b c, x => (match x with
      | .Subscript y (.Slice (some z) (some u) none _) _ => decide (o = .slice) && chk ck .v noE a y && chk ck .v noE b z && chk ck .v noE c u && md.plain x
      | .Call (.Name nm _) [y, z, u] [] _ => decide (o = .range) && decide (nm = "range") && ck.blt nm && notStar y && notStar z && notStar u && isWalk md && chk ck .v noE a y && chk ck .v noE b z && chk ck .v noE c u
      | _ => false)
  | .chain o p a b c, x => (match x with
      | .Compare y [op, op'] [z, u] _ => decide (cmpOf op = some o) && decide (cmpOf op' = some p) && !(lastMarks [op, op'] [z, u]) && chk ck .v noE a y && chk ck .v noE b z && chk ck .v noE c u && (md == .e || md == .v || md == .t)
      | _ => false)
  | .and a b, x => (match x with
      | .BoolOp .And [y, z] _ => (if md = .t then chk ck .t noE a y && chk ck .t noE b z else chk ck .e noE a y && chk ck .e noE b z && md.plain x)
      | .BoolOp .And (y :: z :: u :: r) p => (if md = .t then chk ck .t noE a y && chk ck .t noE b (.BoolOp .And (z :: u :: r) p) else chk ck .e noE a y && chk ck .e noE b (.BoolOp .And (z :: u :: r) p) && md.plain x)
      | _ => false)
  | .or a b, x => (match x with
      | .BoolOp .Or [y, z] _ => (if md = .t then chk ck .t noE a y && chk ck .t noE b z else chk ck .e noE a y && chk ck .e noE b z && md.plain x)
      | .BoolOp .Or (y :: z :: u :: r) p => (if md = .t then chk ck .t noE a y && chk ck .t noE b (.BoolOp .Or (z :: u :: r) p) else chk ck .e noE a y && chk ck .e noE b (.BoolOp .Or (z :: u :: r) p) && md.plain x)
      | _ => false)
  | .ite t a b, x => (match x with
      | .IfExp u y z _ => chk ck .t noE t u && chk ck .e noE a y && chk ck .e noE b z && md.plain x
      | _ => false)
  | .call n cs, x => (match x with
      | .Call (.Name nm _) es [] _ => ck.gl nm && (match ck.fns.find? fun s => decide (s.name = nm) && decide (s.idx = n) with
          | some s => chkMs ck s.modes cs es
          | none => false)
      | _ => false) && md.plain x
  | .callK n perm cs, x => (match x with
      | .Call (.Name nm _) es kws _ => ck.gl nm && (match ck.fns.find? fun s => decide (s.name = nm) && decide (s.idx = n) with
          | some s => decide (kws.map (·.arg) = (kws.filterMap (·.arg)).map some) && decide ((es.length, kws.filterMap (·.arg), perm) ∈ s.kbl) && decide (perm.mapM ((writeModes s.modes perm cs.length)[·]?) = some s.modes) &&
              chkMs ck (writeModes s.modes perm cs.length) cs (es ++ kws.map (·.value))
          | none => false)
      | _ => false) && md.plain x
  | .lc elt tg it cnd, x => (match x with
      | .ListComp y [⟨tge, ie, ifs, z⟩] scope _ => decide (z = 0) && notSet ie && chk ck (.i false) tge it ie && blkC ck.N ck.sc scope (ownOf ck tg.slots) && chkTg (ck.blk scope) tg tge && chkC (ck.blk scope) cnd ifs && chk (ck.blk scope) .e noE elt y
      | _ => false) && (md.plain x || md == .f)
  | .lc2 elt tg it cnd tg2 it2 cnd2, x => (match x with
      | .ListComp y [⟨tge, ie, ifs, z⟩, ⟨tge2, ie2, ifs2, z2⟩] scope _ => decide (z = 0) && decide (z2 = 0) && notSet ie && notSet ie2 && chk ck (.i false) tge it ie && blkC ck.N ck.sc scope (ownOf ck (tg.slots ++ tg2.slots)) && chkTg (ck.blk scope) tg tge && chkC (ck.blk scope) cnd ifs &&
          chk (ck.blk scope) (.i false) tge2 it2 ie2 && chkTg (ck.blk scope) tg2 tge2 && chkC (ck.blk scope) cnd2 ifs2 && chk (ck.blk scope) .e noE elt y
      | _ => false) && (md.plain x || md == .f)
  | .pop a, x => (match x with
      | .Call (.Attribute y nm ap) [] [] cp => decide (nm = "pop") && (ap.endLine == cp.line) && notCall y && chk ck .e noE a y
      | _ => false) && md.plain x
  | .enm a, x => (match x with
      | .Call (.Name nm _) [y] [] _ => decide (nm = "enumerate") && ck.blt nm && notStar y && isWalk md && isTupT te && chk ck (.w md.b) noE a y
      | _ => false)
  | .zip a b, x => (match x with
      | .Call (.Name nm _) [y, z] [] _ => decide (nm = "zip") && ck.blt nm && notStar y && notStar z && isWalk md && isTupT te && chk ck (.w md.b) noE a y && chk ck (.w md.b) noE b z
      | _ => false)
def chkEs (ck : Ck) : List E → List Expr → Bool
  | [], [] => true
  | c :: cs, x :: xs => notStar x && chk ck .e noE c x && chkEs ck cs xs
  | _, _ => false
def chkMs (ck : Ck) : List Bool → List E → List Expr → Bool
  | [], [], [] => true
  | b :: bs, c :: cs, x :: xs => notStar x && chk ck (if b then .v else .e) noE c x && chkMs ck bs cs xs
  | _, _, _ => false
def chkC (ck : Ck) : List E → List Expr → Bool
  | [], [] => true
  | [c], [x] => chk ck .t noE c x
  | _, _ => false
end
theorem chk_cst (ck : Ck) (md : Md) (te x : Expr) (d : D) : chk ck md te (.cst d) x = (cstOk ck d x && md.plain x) := rfl
theorem chk_var (ck : Ck) (md : Md) (te x : Expr) (n : Nat) : chk ck md te (.var n) x = (nameIs x (ck.vis n) && md.plain x) := rfl
theorem chk_view (ck : Ck) (md : Md) (te x : Expr) (n : Nat) : chk ck md te (.view n) x = (nameIs x (ck.vis n) && (match md with | .v => true | .w false => true | .i false => true | _ => false)) := rfl
theorem chk_peek (ck : Ck) (md : Md) (te x : Expr) (n : Nat) : chk ck md te (.peek n) x = (nameIs x (ck.vis n) && (match md with | .v => true | .w _ => true | .i _ => true | _ => false)) := rfl
theorem chk_tup (ck : Ck) (md : Md) (te x : Expr) (cs : List E) : chk ck md te (.tup cs) x = ((match x with
      | .Tuple es _ _ => decide (cs.length ≤ 1000) && chkEs ck cs es
      | _ => false) && md.plain x) := rfl
theorem chk_lst (ck : Ck) (md : Md) (te x : Expr) (cs : List E) : chk ck md te (.lst cs) x = ((match x with
      | .List es _ => decide (cs.length ≤ 1000) && chkEs ck cs es
      | _ => false) && (md.plain x || md == .f)) := rfl
theorem chk_cell (ck : Ck) (md : Md) (te x : Expr) (a : E) : chk ck md te (.cell a) x = (chk ck .f noE a x && md.plain x) := rfl
theorem chk_op1 (ck : Ck) (md : Md) (te x : Expr) (o : Op1) (a : E) : chk ck md te (.op1 o a) x = ((match o, x with
      | .neg, .UnaryOp .USub y _ => chk ck .v noE a y && md.plain x
      | .not, .UnaryOp .Not y _ => if md = .t then chk ck .t noE a y else (chk ck .v noE a y && md.plain x)
      | .rev, .Subscript y (.Slice none none (some (.UnaryOp .USub (.Constant (.int k) _ _) _)) _) _ => decide (k = 1) && chk ck .v noE a y && (md.plain x || md == .f)
      | .range, .Call (.Name nm _) [y] [] _ => decide (nm = "range") && ck.blt nm && notStar y && isWalk md && chk ck .v noE a y
      | .sset, .Call (.Name nm _) [.Call (.Name n2 _) [y] [] _] [] _ => decide (nm = "sorted") && decide (n2 = "set") && ck.blt nm && ck.blt n2 && notStar y && chk ck .v noE a y && md.plain x
      | o, .Call (.Name nm _) [y] [] _ => (match bltNm o with | some (z, _) => decide (nm = z) | none => false) && ck.blt nm && notStar y && chk ck .v noE a y && md.plain x
      | o, .Call (.Name nm _) [y, .Name ty _] [] _ => decide (nm = "isinstance") && decide (isaOf o = some ty) && ck.blt nm && ck.blt ty && notStar y && chk ck .v noE a y && md.plain x
      | _, _ => false)) := rfl
theorem chk_op2 (ck : Ck) (md : Md) (te x : Expr) (o : Op2) (a : E) (b : E) : chk ck md te (.op2 o a b) x = ((match x with
      | .BinOp y op z _ => decide (binOf op = some o) && chk ck .v noE a y && chk ck .v noE b z && md.plain x
      | .Compare y [op] [z] _ => decide (cmpOf op = some o) && !(behindInMarks op z) && chk ck .v noE a y && chk ck .v noE b z && (md == .t || md.plain x)
      | .Subscript y (.Slice (some z) none none _) _ => decide (o = .sfrom) && chk ck .v noE a y && chk ck .v noE b z && md.plain x
      | .Subscript y (.Slice none (some z) none _) _ => decide (o = .sto) && chk ck .v noE a y && chk ck .v noE b z && md.plain x
      | .Subscript y z _ => decide (o = .ix) && notSlice z && chk ck .v noE a y && chk ck .v noE b z && md.plain x
      | .Call (.Attribute y nm ap) [z] [] cp => decide (o = .join) && decide (nm = "join") && (ap.endLine == cp.line) && notCall y && notStar z && chk ck .v noE a y && chk ck .v noE b z && md.plain x
      | .Call (.Name nm _) [y, z] [] _ => ck.blt nm && notStar y && notStar z && chk ck .v noE a y && chk ck .v noE b z &&
          (match o with
            | .range => decide (nm = "range") && isWalk md
            | .max => decide (nm = "max") && md.plain x
            | .min => decide (nm = "min") && md.plain x
            | _ => false)
      | _ => false)) := rfl
theorem chk_op3 (ck : Ck) (md : Md) (te x : Expr) (o : Op3) (a : E) (b : E) (c : E) : chk ck md te (.op3 o a b c) x = ((match x with
      | .Subscript y (.Slice (some z) (some u) none _) _ => decide (o = .slice) && chk ck .v noE a y && chk ck .v noE b z && chk ck .v noE c u && md.plain x
      | .Call (.Name nm _) [y, z, u] [] _ => decide (o = .range) && decide (nm = "range") && ck.blt nm && notStar y && notStar z && notStar u && isWalk md && chk ck .v noE a y && chk ck .v noE b z && chk ck .v noE c u
      | _ => false)) := rfl
theorem chk_chain (ck : Ck) (md : Md) (te x : Expr) (o : Op2) (p : Op2) (a : E) (b : E) (c : E) : chk ck md te (.chain o p a b c) x = ((match x with
      | .Compare y [op, op'] [z, u] _ => decide (cmpOf op = some o) && decide (cmpOf op' = some p) && !(lastMarks [op, op'] [z, u]) && chk ck .v noE a y && chk ck .v noE b z && chk ck .v noE c u && (md == .e || md == .v || md == .t)
      | _ => false)) := rfl
theorem chk_and (ck : Ck) (md : Md) (te x : Expr) (a : E) (b : E) : chk ck md te (.and a b) x = ((match x with
      | .BoolOp .And [y, z] _ => (if md = .t then chk ck .t noE a y && chk ck .t noE b z else chk ck .e noE a y && chk ck .e noE b z && md.plain x)
      | .BoolOp .And (y :: z :: u :: r) p => (if md = .t then chk ck .t noE a y && chk ck .t noE b (.BoolOp .And (z :: u :: r) p) else chk ck .e noE a y && chk ck .e noE b (.BoolOp .And (z :: u :: r) p) && md.plain x)
      | _ => false)) := rfl
theorem chk_or (ck : Ck) (md : Md) (te x : Expr) (a : E) (b : E) : chk ck md te (.or a b) x = ((match x with
      | .BoolOp .Or [y, z] _ => (if md = .t then chk ck .t noE a y && chk ck .t noE b z else chk ck .e noE a y && chk ck .e noE b z && md.plain x)
      | .BoolOp .Or (y :: z :: u :: r) p => (if md = .t then chk ck .t noE a y && chk ck .t noE b (.BoolOp .Or (z :: u :: r) p) else chk ck .e noE a y && chk ck .e noE b (.BoolOp .Or (z :: u :: r) p) && md.plain x)
      | _ => false)) := rfl
theorem chk_ite (ck : Ck) (md : Md) (te x : Expr) (t : E) (a : E) (b : E) : chk ck md te (.ite t a b) x = ((match x with
      | .IfExp u y z _ => chk ck .t noE t u && chk ck .e noE a y && chk ck .e noE b z && md.plain x
      | _ => false)) := rfl
theorem chk_call (ck : Ck) (md : Md) (te x : Expr) (n : Nat) (cs : List E) : chk ck md te (.call n cs) x = ((match x with
      | .Call (.Name nm _) es [] _ => ck.gl nm && (match ck.fns.find? fun s => decide (s.name = nm) && decide (s.idx = n) with
          | some s => chkMs ck s.modes cs es
          | none => false)
      | _ => false) && md.plain x) := rfl
theorem chk_callK (ck : Ck) (md : Md) (te x : Expr) (n : Nat) (perm : List Nat) (cs : List E) : chk ck md te (.callK n perm cs) x = ((match x with
      | .Call (.Name nm _) es kws _ => ck.gl nm && (match ck.fns.find? fun s => decide (s.name = nm) && decide (s.idx = n) with
          | some s => decide (kws.map (·.arg) = (kws.filterMap (·.arg)).map some) && decide ((es.length, kws.filterMap (·.arg), perm) ∈ s.kbl) && decide (perm.mapM ((writeModes s.modes perm cs.length)[·]?) = some s.modes) &&
              chkMs ck (writeModes s.modes perm cs.length) cs (es ++ kws.map (·.value))
          | none => false)
      | _ => false) && md.plain x) := rfl
theorem chk_lc (ck : Ck) (md : Md) (te x : Expr) (elt : E) (tg : Tg) (it : E) (cnd : List E) : chk ck md te (.lc elt tg it cnd) x = ((match x with
      | .ListComp y [⟨tge, ie, ifs, z⟩] scope _ => decide (z = 0) && notSet ie && chk ck (.i false) tge it ie && blkC ck.N ck.sc scope (ownOf ck tg.slots) && chkTg (ck.blk scope) tg tge && chkC (ck.blk scope) cnd ifs && chk (ck.blk scope) .e noE elt y
      | _ => false) && (md.plain x || md == .f)) := rfl
theorem chk_lc2 (ck : Ck) (md : Md) (te x : Expr) (elt : E) (tg : Tg) (it : E) (cnd : List E) (tg2 : Tg) (it2 : E) (cnd2 : List E) : chk ck md te (.lc2 elt tg it cnd tg2 it2 cnd2) x = ((match x with
      | .ListComp y [⟨tge, ie, ifs, z⟩, ⟨tge2, ie2, ifs2, z2⟩] scope _ => decide (z = 0) && decide (z2 = 0) && notSet ie && notSet ie2 && chk ck (.i false) tge it ie && blkC ck.N ck.sc scope (ownOf ck (tg.slots ++ tg2.slots)) && chkTg (ck.blk scope) tg tge && chkC (ck.blk scope) cnd ifs &&
          chk (ck.blk scope) (.i false) tge2 it2 ie2 && chkTg (ck.blk scope) tg2 tge2 && chkC (ck.blk scope) cnd2 ifs2 && chk (ck.blk scope) .e noE elt y
      | _ => false) && (md.plain x || md == .f)) := rfl
theorem chk_pop (ck : Ck) (md : Md) (te x : Expr) (a : E) : chk ck md te (.pop a) x = ((match x with
      | .Call (.Attribute y nm ap) [] [] cp => decide (nm = "pop") && (ap.endLine == cp.line) && notCall y && chk ck .e noE a y
      | _ => false) && md.plain x) := rfl
theorem chk_enm (ck : Ck) (md : Md) (te x : Expr) (a : E) : chk ck md te (.enm a) x = ((match x with
      | .Call (.Name nm _) [y] [] _ => decide (nm = "enumerate") && ck.blt nm && notStar y && isWalk md && isTupT te && chk ck (.w md.b) noE a y
      | _ => false)) := rfl
theorem chk_zip (ck : Ck) (md : Md) (te x : Expr) (a : E) (b : E) : chk ck md te (.zip a b) x = ((match x with
      | .Call (.Name nm _) [y, z] [] _ => decide (nm = "zip") && ck.blt nm && notStar y && notStar z && isWalk md && isTupT te && chk ck (.w md.b) noE a y && chk ck (.w md.b) noE b z
      | _ => false)) := rfl
theorem base_ok {o : Expr} {nm : Str} (h : notCall o = true) {env : PySem.Env} : attributeBase o nm env (eval o env) = eval o env := by
  cases o <;> first | rfl | cases h
end Ev
end

section
set_option Elab.async false
set_option linter.all false
set_option maxRecDepth 100000
namespace Ev
open PySem L2 PyProof.Rows
variable [TabList]
def Snd (Γ : Nat → List D → Heap → R D) (X : Cx) (md : Md) (te x : Expr) (c : E) : Prop := match md with
  | .e => ∀ g, PE X x (tE X.K Γ g c)
  | .v => ∀ g, PE X x (tV X.K Γ g c)
  | .t => (∀ g, PT X x (tT X.K Γ g c)) ∧ ∀ op es p, x = .BoolOp op es p → ∀ g, PW X x (tT X.K Γ g c)
  | .f => ∀ g, PE X x (tF X.K Γ g c)
  | .i b => ∀ g, PI X te x (tI X.K Γ g b c)
  | .w b => ∀ g, PE X x (tW X.K Γ g b c)
section
variable {Γ : Nat → List D → Heap → R D} {X : Cx} {ck : Ck} {md : Md} {te x : Expr} {c : E}
theorem snd_e (h : ∀ g, PE X x (tE X.K Γ g c)) (hp : md.plain x = true) : Snd Γ X md te x c := by
  cases md with
  | e => exact h
  | v => exact fun g => peV (h g)
  | f => cases hp
  | i b => exact fun g => i_any (w_gen (h g))
  | w b => exact fun g => w_gen (h g)
  | t =>
    refine ⟨fun g => t_val (peV (h g)) (testPlain_ok hp _), fun op es p e => ?_⟩
    subst e
    cases hp
theorem snd_f (h : ∀ g, PE X x (tF X.K Γ g c)) (hl : ∀ env hp d hp', evE reprL Γ c env hp = some (.ok d hp') → ∃ ds, d = .lst ds) (hp : (md.plain x || md == .f) = true) : Snd Γ X md te x c := by
  by_cases e : md = .f
  · subst e
    exact h
  · refine snd_e (fun g => pe_of_f (h g) hl) ?_
    simpa [e] using hp
theorem nameIs_of {p : Str → Bool} (h : nameIs x p = true) : ∃ y q, x = .Name y q ∧ p y = true := by
  cases x <;> first | exact ⟨_, _, rfl, h⟩ | cases h
theorem cst_sound (G : Good Γ X ck) {d : D} (h : cstOk ck d x = true) (g : Gh) : PE X x (tE X.K Γ g (.cst d)) := by
  unfold cstOk at h
  split at h
  · obtain rfl := of_decide_eq_true h
    exact e_val pe_int fun _ _ _ => .int _
  · obtain rfl := of_decide_eq_true h
    exact e_val pe_bl fun _ _ _ => .bl _
  · obtain rfl := of_decide_eq_true h
    exact e_val pe_str fun _ _ _ => .str _
  · exact e_val pe_non fun _ _ _ => .non
  · simp only [Bool.and_eq_true, List.any_eq_true, decide_eq_true_eq] at h
    obtain ⟨h1, ⟨y, d⟩, hp, rfl, h2⟩ := h
    obtain ⟨h3, h4⟩ := G.gl h1
    obtain ⟨v, u, hm, r, hr⟩ := G.cons _ hp
    split at h2
    · obtain rfl := of_decide_eq_true h2
      rename_i e
      have e : d = _ := e
      subst e
      exact e_val (pe_glob h3 hm r h4) hr
    · cases h2
  · cases h
theorem find_fact (G : Good Γ X ck) {p : Sig → Bool} {s : Sig} (h : ck.fns.find? p = some s) : FnFact Γ X s ∧ p s = true := ⟨G.fns s (List.mem_of_find?_eq_some h), List.find?_some h⟩
/-- arguments, one by one -/
inductive AsOk (Γ : Nat → List D → Heap → R D) (X : Cx) : List Bool → List E → List Expr → Prop
  | nil : AsOk Γ X [] [] []
  | val {c x bs cs xs} : notStar x = true → (∀ g, PE X x (tE X.K Γ g c)) → AsOk Γ X bs cs xs → AsOk Γ X (false :: bs) (c :: cs) (x :: xs)
  | bor {c x bs cs xs} : notStar x = true → (∀ g, PE X x (tV X.K Γ g c)) → AsOk Γ X bs cs xs → AsOk Γ X (true :: bs) (c :: cs) (x :: xs)
theorem AsOk.pa {bs : List Bool} {cs : List E} {xs : List Expr} (h : AsOk Γ X bs cs xs) (g : Gh) : PA X xs (tMs X.K Γ g bs cs) := by
  induction h with
  | nil => exact ms_nil
  | val h1 h2 _ ih => exact ms_val (h2 g) ih h1
  | bor h1 h2 _ ih => exact ms_bor (h2 g) ih h1
theorem AsOk.star {bs : List Bool} {cs : List E} {xs : List Expr} (h : AsOk Γ X bs cs xs) : xs.all notStar = true ∧ cs.length = xs.length ∧ bs.length = xs.length := by
  induction h with
  | nil => exact ⟨rfl, rfl, rfl⟩
  | val h1 _ _ ih => exact ⟨by rw [List.all_cons, h1, ih.1]; rfl, congrArg (· + 1) ih.2.1, congrArg (· + 1) ih.2.2⟩
  | bor h1 _ _ ih => exact ⟨by rw [List.all_cons, h1, ih.1]; rfl, congrArg (· + 1) ih.2.1, congrArg (· + 1) ih.2.2⟩
theorem AsOk.split : ∀ {xs ys : List Expr} {bs : List Bool} {cs : List E}, AsOk Γ X bs cs (xs ++ ys) → ∃ b1 b2 c1 c2, bs = b1 ++ b2 ∧ cs = c1 ++ c2 ∧ AsOk Γ X b1 c1 xs ∧ AsOk Γ X b2 c2 ys
  | [], ys, bs, cs, h => ⟨[], bs, [], cs, rfl, rfl, .nil, h⟩
  | x :: xs, ys, _, _, .val h1 h2 h => by
    obtain ⟨b1, b2, c1, c2, rfl, rfl, k1, k2⟩ := h.split
    exact ⟨false :: b1, b2, _ :: c1, c2, rfl, rfl, .val h1 h2 k1, k2⟩
  | x :: xs, ys, _, _, .bor h1 h2 h => by
    obtain ⟨b1, b2, c1, c2, rfl, rfl, k1, k2⟩ := h.split
    exact ⟨true :: b1, b2, _ :: c1, c2, rfl, rfl, .bor h1 h2 k1, k2⟩
theorem AsOk.pk (g : Gh) : ∀ {kws : List Keyword} {bs : List Bool} {cs : List E}, AsOk Γ X bs cs (kws.map (·.value)) → PK X kws (tMs X.K Γ g bs cs)
  | [], _, _, .nil => mk_nil
  | ⟨nm, e, kp⟩ :: kws, _, _, .val _ h2 h => mk_val (h2 g) (h.pk g)
  | ⟨nm, e, kp⟩ :: kws, _, _, .bor _ h2 h => mk_bor (h2 g) (h.pk g)
theorem call_sound (G : Good Γ X ck) {s : Sig} {nm : Str} {n : Nat} {cs : List E} {es : List Expr} {p pos : Pos} (hf : FnFact Γ X s) (h1 : s.name = nm) (h2 : s.idx = n) (hgl : ck.gl nm = true) (h : AsOk Γ X s.modes cs es) (g : Gh) : PE X (.Call (.Name nm p) es [] pos) (tE X.K Γ g (.call n cs)) := by
  subst h1 h2
  obtain ⟨k, f, fd, F, room, hm, hk, hb, _⟩ := hf.ex
  obtain ⟨g1, g2⟩ := G.gl hgl
  have hp := h.pa g
  have hst := h.star.1
  cases es with
  | nil =>
    generalize hmo : s.modes = mo at h F
    cases h
    exact e_call0 F room G.gu g1 hm hk hb g2
  | cons e es =>
    simp only [List.all_cons, Bool.and_eq_true] at hst
    exact e_call F room G.gu g1 hm hk hb hp g2 hst.1 (star_all hst.2 _ _)
theorem callK_sound (G : Good Γ X ck) {s : Sig} {nm : Str} {n : Nat} {perm : List Nat} {cs : List E} {es : List Expr} {kws : List Keyword} {bs : List Bool} {p pos : Pos} (hf : FnFact Γ X s) (h1 : s.name = nm) (h2 : s.idx = n) (hgl : ck.gl nm = true)
    (hk1 : kws.map (·.arg) = (kws.filterMap (·.arg)).map some) (hk2 : (es.length, kws.filterMap (·.arg), perm) ∈ s.kbl) (hk3 : perm.mapM (bs[·]?) = some s.modes) (h : AsOk Γ X bs cs (es ++ kws.map (·.value))) (g : Gh) : PE X (.Call (.Name nm p) es kws pos) (tE X.K Γ g (.callK n perm cs)) := by
  subst h1 h2
  obtain ⟨k, f, fd, F, room, hm, hk, hb, hkb⟩ := hf.ex
  obtain ⟨g1, g2⟩ := G.gl hgl
  have KBs := hkb _ hk2
  obtain ⟨b1, b2, c1, c2, rfl, rfl, k1, k2⟩ := h.split
  obtain ⟨a1, a2, a3⟩ := kw_all hk1 pos X.env
  have l2 : c2.length = (kws.filterMap (·.arg)).length := by
    rw [k2.star.2.1, List.length_map]
    have := congrArg List.length hk1
    rw [List.length_map, List.length_map] at this
    exact this
  have hst := k1.star
  cases es with
  | nil =>
    cases k1
    exact e_callK0 F room G.gu g1 hm hk KBs hk3 l2 (k2.pk g) a1 a2 g2 (by rw [a3]; rfl)
  | cons e es =>
    have hs1 := hst.1
    simp only [List.all_cons, Bool.and_eq_true] at hs1
    refine e_callK F room G.gu g1 hm hk (by rw [hst.2.1]; exact KBs) hk3 l2 (k1.pa g) (k2.pk g) a1 a2 g2 hs1.1 ?_
    rw [a3, star_all hst.1]
    rfl
end
section
variable {Γ : Nat → List D → Heap → R D}
mutual
theorem chk_sound : ∀ (c : E) (ck : Ck) (md : Md) (te x : Expr) (X : Cx), Good Γ X ck → chk ck md te c x = true → Snd Γ X md te x c
  | .cst d, ck, md, te, x, X, G, h => by
    rw [chk_cst, Bool.and_eq_true] at h
    exact snd_e (fun g => cst_sound G h.1 g) h.2
  | .var n, ck, md, te, x, X, G, h => by
    rw [chk_var, Bool.and_eq_true] at h
    obtain ⟨y, q, rfl, hv⟩ := nameIs_of h.1
    obtain ⟨h1, h2, h3, h4⟩ := G.vis hv
    exact snd_e (fun g => e_var h1 h2 h3 h4) h.2
  | .view n, ck, md, te, x, X, G, h => by
    rw [chk_view, Bool.and_eq_true] at h
    obtain ⟨y, q, rfl, hv⟩ := nameIs_of h.1
    obtain ⟨h1, h2, h3, h4⟩ := G.vis hv
    have h5 := h.2
    cases md with
    | v => exact fun g => e_view h1 h2 h3 h4
    | w b => cases b with
      | false => exact fun g => w_view h1 h2 h3 h4
      | true => cases h5
    | i b => cases b with
      | false => exact fun g => i_any (w_view h1 h2 h3 h4)
      | true => cases h5
    | _ => cases h5
  | .peek n, ck, md, te, x, X, G, h => by
    rw [chk_peek, Bool.and_eq_true] at h
    obtain ⟨y, q, rfl, hv⟩ := nameIs_of h.1
    obtain ⟨h1, h2, h3, h4⟩ := G.vis hv
    have h5 := h.2
    cases md with
    | v => exact fun g => e_peek h1 h2 h3 h4
    | w b => exact fun g => w_peek h1 h2 h3 h4
    | i b => exact fun g => i_any (w_peek h1 h2 h3 h4)
    | _ => cases h5
  | .tup cs, ck, md, te, x, X, G, h => by
    rw [chk_tup, Bool.and_eq_true] at h
    obtain ⟨h, hp⟩ := h
    split at h
    · simp only [andI, decI] at h
      obtain ⟨h1, h2⟩ := chkEs_sound cs ck _ X G h.2
      exact snd_e (fun g => e_tup (h1 g) (Nat.le_trans h.1 (by decide)) h2) hp
    · cases h
  | .lst cs, ck, md, te, x, X, G, h => by
    rw [chk_lst, Bool.and_eq_true] at h
    obtain ⟨h, hp⟩ := h
    split at h
    · simp only [andI, decI] at h
      obtain ⟨h1, h2⟩ := chkEs_sound cs ck _ X G h.2
      exact snd_f (fun g => f_lst (h1 g) (Nat.le_trans h.1 (by decide))) lst_lst hp
    · cases h
  | .cell a, ck, md, te, x, X, G, h => by
    rw [chk_cell, Bool.and_eq_true] at h
    exact snd_e (fun g => e_cell (chk_sound a ck .f noE x X G h.1 g)) h.2
  | .op1 o a, ck, md, te, x, X, G, h => by
    rw [chk_op1] at h
    split at h
    · rw [Bool.and_eq_true] at h
      exact snd_e (fun g => e_neg (chk_sound a ck .v noE _ X G h.1 g)) h.2
    · split at h
      · rename_i e
        subst e
        exact ⟨fun g => t_not ((chk_sound a ck .t noE _ X G h).1 g), fun _ _ _ e => by cases e⟩
      · rw [Bool.and_eq_true] at h
        exact snd_e (fun g => e_not (chk_sound a ck .v noE _ X G h.1 g)) h.2
    · simp only [andI, decI] at h
      obtain ⟨⟨rfl, h1⟩, h2⟩ := h
      by_cases e : md = .f
      · subst e
        exact fun g => f_rev (chk_sound a ck .v noE _ X G h1 g)
      · exact snd_e (fun g => e_rev (chk_sound a ck .v noE _ X G h1 g)) (by simpa [e] using h2)
    · simp only [andI, decI] at h
      obtain ⟨⟨⟨⟨rfl, hb⟩, ns⟩, hw⟩, h1⟩ := h
      obtain ⟨b1, b2⟩ := G.isBlt hb
      cases md with
      | i b => exact fun g => i_range1 b1 b2 (chk_sound a ck .v noE _ X G h1 g) ns
      | _ => cases hw
    · simp only [andI, decI] at h
      obtain ⟨⟨⟨⟨⟨⟨rfl, rfl⟩, hb⟩, hb2⟩, ns⟩, h1⟩, hp⟩ := h
      obtain ⟨b1, b2⟩ := G.isBlt hb
      obtain ⟨b3, b4⟩ := G.isBlt hb2
      exact snd_e (fun g => e_sset G.calm G.un b1 b2 b3 b4 (chk_sound a ck .v noE _ X G h1 g) ns) hp
    · simp only [andI] at h
      obtain ⟨⟨⟨⟨hn, hb⟩, ns⟩, h1⟩, hp⟩ := h
      obtain ⟨b1, b2⟩ := G.isBlt hb
      have ha := fun g => chk_sound a ck .v noE _ X G h1 g
      split at hn
      · rename_i z _ e
        obtain rfl := of_decide_eq_true hn
        cases o <;> simp only [bltNm, reduceCtorEq, Option.some.injEq, Prod.mk.injEq] at e <;> obtain ⟨rfl, _⟩ := e
        · exact snd_e (fun g => e_b1 rc_len b1 b2 PySem.boot_len (by decide) (by decide) (ha g) ns) hp
        · exact snd_e (fun g => e_t1 rc_tuple b1 b2 PyProof.Rows.boot_tuple (by decide) (by decide) (ha g) ns) hp
        · exact snd_e (fun g => e_t1 rc_list b1 b2 PyProof.Rows.boot_list (by decide) (by decide) (ha g) ns) hp
        · exact snd_e (fun g => e_b1 (rc_sorted G.un) b1 b2 (by decide +kernel) (by decide) (by decide) (ha g) ns) hp
        · exact snd_e (fun g => e_b1 (rc_sum G.calm) b1 b2 PyProof.Rows.boot_sum (by decide) (by decide) (ha g) ns) hp
        · exact snd_e (fun g => e_b1 (rc_any G.calm) b1 b2 (by decide +kernel) (by decide) (by decide) (ha g) ns) hp
        · exact snd_e (fun g => e_b1 (rc_all G.calm) b1 b2 (by decide +kernel) (by decide) (by decide) (ha g) ns) hp
        · exact snd_e (fun g => e_b1 rc_abs b1 b2 (by decide +kernel) (by decide) (by decide) (ha g) ns) hp
        · exact snd_e (fun g => e_t1 rc_int b1 b2 PyProof.Rows.boot_int (by decide) (by decide) (ha g) ns) hp
        · exact snd_e (fun g => e_b1 (rc_repr G.gu G.un) b1 b2 (by decide +kernel) (by decide) (by decide) (ha g) ns) hp
      · cases hn
    · simp only [andI, decI] at h
      obtain ⟨⟨⟨⟨⟨⟨rfl, hi⟩, hb⟩, hb2⟩, ns⟩, h1⟩, hp⟩ := h
      obtain ⟨b1, b2⟩ := G.isBlt hb
      obtain ⟨b3, b4⟩ := G.isBlt hb2
      have ha := fun g => chk_sound a ck .v noE _ X G h1 g
      cases o <;> simp only [isaOf, reduceCtorEq, Option.some.injEq] at hi <;> subst hi
      · exact snd_e (fun g => e_isa (T := "tuple") (.inl ⟨rfl, rfl⟩) b1 b2 b3 b4 PyProof.Rows.boot_tuple (by decide) (by decide) (ha g) ns) hp
      · exact snd_e (fun g => e_isa (T := "int") (.inr (.inl ⟨rfl, rfl⟩)) b1 b2 b3 b4 PyProof.Rows.boot_int (by decide) (by decide) (ha g) ns) hp
      · exact snd_e (fun g => e_isa (T := "str") (.inr (.inr (.inl ⟨rfl, rfl⟩))) b1 b2 b3 b4 PyProof.Rows.boot_str (by decide) (by decide) (ha g) ns) hp
      · exact snd_e (fun g => e_isa (T := "bool") (.inr (.inr (.inr ⟨rfl, rfl⟩))) b1 b2 b3 b4 PyProof.Rows.boot_bool (by decide) (by decide) (ha g) ns) hp
    · cases h
  | .op2 o a b, ck, md, te, x, X, G, h => by
    rw [chk_op2] at h
    split at h
    · simp only [andI, decI] at h
      obtain ⟨⟨⟨ho, h1⟩, h2⟩, hp⟩ := h
      exact snd_e (fun g => e_bin (bin_ok ho) (chk_sound a ck .v noE _ X G h1 g) (chk_sound b ck .v noE _ X G h2 g)) hp
    · simp only [Bool.and_eq_true, decide_eq_true_eq, Bool.not_eq_true'] at h
      obtain ⟨⟨⟨⟨ho, hm⟩, h1⟩, h2⟩, hp⟩ := h
      by_cases e : md = .t
      · subst e
        exact ⟨fun g => t_cmp (cmp_ok G.un ho) (chk_sound a ck .v noE _ X G h1 g) (chk_sound b ck .v noE _ X G h2 g) hm, fun _ _ _ e => by cases e⟩
      · exact snd_e (fun g => e_cmp (cmp_ok G.un ho) (chk_sound a ck .v noE _ X G h1 g) (chk_sound b ck .v noE _ X G h2 g) hm) (by simpa [e] using hp)
    · simp only [andI, decI] at h
      obtain ⟨⟨⟨rfl, h1⟩, h2⟩, hp⟩ := h
      exact snd_e (fun g => e_sfrom (chk_sound a ck .v noE _ X G h1 g) (chk_sound b ck .v noE _ X G h2 g)) hp
    · simp only [andI, decI] at h
      obtain ⟨⟨⟨rfl, h1⟩, h2⟩, hp⟩ := h
      exact snd_e (fun g => e_sto (chk_sound a ck .v noE _ X G h1 g) (chk_sound b ck .v noE _ X G h2 g)) hp
    · simp only [andI, decI] at h
      obtain ⟨⟨⟨⟨rfl, hs⟩, h1⟩, h2⟩, hp⟩ := h
      exact snd_e (fun g => e_ix (chk_sound a ck .v noE _ X G h1 g) (chk_sound b ck .v noE _ X G h2 g) (plainIx_of hs)) hp
    · simp only [andI, decI] at h
      obtain ⟨⟨⟨⟨⟨⟨⟨rfl, rfl⟩, hl⟩, hn⟩, ns⟩, h1⟩, h2⟩, hp⟩ := h
      exact snd_e (fun g => e_join (chk_sound a ck .v noE _ X G h1 g) (chk_sound b ck .v noE _ X G h2 g) (star_cons ns [] X.env) (base_ok hn) hl) hp
    · simp only [andI] at h
      obtain ⟨⟨⟨⟨⟨hb, n1⟩, n2⟩, h1⟩, h2⟩, h3⟩ := h
      obtain ⟨b1, b2⟩ := G.isBlt hb
      have ha := fun g => chk_sound a ck .v noE _ X G h1 g
      have kb := fun g => chk_sound b ck .v noE _ X G h2 g
      split at h3
      · simp only [andI, decI] at h3
        obtain ⟨rfl, hw⟩ := h3
        cases md with
        | i b => exact fun g => i_range2 b1 b2 (ha g) (kb g) n1 n2
        | _ => cases hw
      · simp only [andI, decI] at h3
        obtain ⟨rfl, hp⟩ := h3
        exact snd_e (fun g => e_max2 G.calm b1 b2 (ha g) (kb g) n1 n2) hp
      · simp only [andI, decI] at h3
        obtain ⟨rfl, hp⟩ := h3
        exact snd_e (fun g => e_min2 G.calm b1 b2 (ha g) (kb g) n1 n2) hp
      · cases h3
    · cases h
  | .op3 o a b c, ck, md, te, x, X, G, h => by
    rw [chk_op3] at h
    split at h
    · simp only [andI, decI] at h
      obtain ⟨⟨⟨⟨rfl, h1⟩, h2⟩, h3⟩, hp⟩ := h
      exact snd_e (fun g => e_slice (chk_sound a ck .v noE _ X G h1 g) (chk_sound b ck .v noE _ X G h2 g) (chk_sound c ck .v noE _ X G h3 g)) hp
    · simp only [andI, decI] at h
      obtain ⟨⟨⟨⟨⟨⟨⟨⟨⟨rfl, rfl⟩, hb⟩, n1⟩, n2⟩, n3⟩, hw⟩, h1⟩, h2⟩, h3⟩ := h
      obtain ⟨b1, b2⟩ := G.isBlt hb
      cases md with
      | i b' => exact fun g => i_range3 b1 b2 (chk_sound a ck .v noE _ X G h1 g) (chk_sound b ck .v noE _ X G h2 g) (chk_sound c ck .v noE _ X G h3 g) n1 n2 n3
      | _ => cases hw
    · cases h
  | .chain o p a b c, ck, md, te, x, X, G, h => by
    rw [chk_chain] at h
    split at h
    · simp only [Bool.and_eq_true, decide_eq_true_eq, Bool.not_eq_true'] at h
      obtain ⟨⟨⟨⟨⟨⟨ho, ho'⟩, hm⟩, h1⟩, h2⟩, h3⟩, hp⟩ := h
      have key := fun g => e_chain (pos := by assumption) (cmp_ok G.un ho) (cmp_ok G.un ho') (chk_sound a ck .v noE _ X G h1 g) (chk_sound b ck .v noE _ X G h2 g) (chk_sound c ck .v noE _ X G h3 g) hm
      cases md with
      | e => exact fun g => key g
      | v => exact fun g => peV (key g)
      | t => exact ⟨fun g => t_chain (cmp_ok G.un ho) (cmp_ok G.un ho') (chk_sound a ck .v noE _ X G h1 g) (chk_sound b ck .v noE _ X G h2 g) (chk_sound c ck .v noE _ X G h3 g) hm, fun _ _ _ e => by cases e⟩
      | _ => cases hp
    · cases h
  | .and a b, ck, md, te, x, X, G, h => by
    rw [chk_and] at h
    split at h
    · split at h
      · rename_i e
        subst e
        rw [Bool.and_eq_true] at h
        have hw := fun g => w_and (pos := by assumption) ((chk_sound a ck .t noE _ X G h.1).1 g) (pw_and1 ((chk_sound b ck .t noE _ X G h.2).1 g))
        exact ⟨fun g => (hw g).pt, fun _ _ _ _ g => hw g⟩
      · simp only [andI] at h
        exact snd_e (fun g => e_and (chk_sound a ck .e noE _ X G h.1.1 g) (pe_one (chk_sound b ck .e noE _ X G h.1.2 g))) h.2
    · split at h
      · rename_i e
        subst e
        rw [Bool.and_eq_true] at h
        have hw := fun g => w_and ((chk_sound a ck .t noE _ X G h.1).1 g) ((chk_sound b ck .t noE _ X G h.2).2 _ _ _ rfl g)
        exact ⟨fun g => (hw g).pt, fun _ _ _ _ g => hw g⟩
      · simp only [andI] at h
        exact snd_e (fun g => e_and (chk_sound a ck .e noE _ X G h.1.1 g) (chk_sound b ck .e noE _ X G h.1.2 g)) h.2
    · cases h
  | .or a b, ck, md, te, x, X, G, h => by
    rw [chk_or] at h
    split at h
    · split at h
      · rename_i e
        subst e
        rw [Bool.and_eq_true] at h
        have hw := fun g => w_or (pos := by assumption) ((chk_sound a ck .t noE _ X G h.1).1 g) (pw_or1 ((chk_sound b ck .t noE _ X G h.2).1 g))
        exact ⟨fun g => (hw g).pt, fun _ _ _ _ g => hw g⟩
      · simp only [andI] at h
        exact snd_e (fun g => e_or (chk_sound a ck .e noE _ X G h.1.1 g) (pe_one (chk_sound b ck .e noE _ X G h.1.2 g))) h.2
    · split at h
      · rename_i e
        subst e
        rw [Bool.and_eq_true] at h
        have hw := fun g => w_or ((chk_sound a ck .t noE _ X G h.1).1 g) ((chk_sound b ck .t noE _ X G h.2).2 _ _ _ rfl g)
        exact ⟨fun g => (hw g).pt, fun _ _ _ _ g => hw g⟩
      · simp only [andI] at h
        exact snd_e (fun g => e_or (chk_sound a ck .e noE _ X G h.1.1 g) (chk_sound b ck .e noE _ X G h.1.2 g)) h.2
    · cases h
  | .ite t a b, ck, md, te, x, X, G, h => by
    rw [chk_ite] at h
    split at h
    · simp only [andI] at h
      exact snd_e (fun g => e_ite ((chk_sound t ck .t noE _ X G h.1.1.1).1 g) (chk_sound a ck .e noE _ X G h.1.1.2 g) (chk_sound b ck .e noE _ X G h.1.2 g)) h.2
    · cases h
  | .call n cs, ck, md, te, x, X, G, h => by
    rw [chk_call, Bool.and_eq_true] at h
    obtain ⟨h, hp⟩ := h
    split at h
    · rw [Bool.and_eq_true] at h
      obtain ⟨hg, h⟩ := h
      split at h
      · rename_i s hf
        obtain ⟨ff, hq⟩ := find_fact G hf
        simp only [andI, decI] at hq
        exact snd_e (fun g => call_sound G ff hq.1 hq.2 hg (chkMs_sound cs ck _ _ X G h) g) hp
      · cases h
    · cases h
  | .callK n perm cs, ck, md, te, x, X, G, h => by
    rw [chk_callK, Bool.and_eq_true] at h
    obtain ⟨h, hp⟩ := h
    split at h
    · rw [Bool.and_eq_true] at h
      obtain ⟨hg, h⟩ := h
      split at h
      · rename_i s hf
        obtain ⟨ff, hq⟩ := find_fact G hf
        simp only [andI, decI] at hq h
        exact snd_e (fun g => callK_sound G ff hq.1 hq.2 hg h.1.1.1 h.1.1.2 h.1.2 (chkMs_sound cs ck _ _ X G h.2) g) hp
      · cases h
    · cases h
  | .lc elt tg it cnd, ck, md, te, x, X, G, h => by
    rw [chk_lc, Bool.and_eq_true] at h
    obtain ⟨h, hp⟩ := h
    split at h
    · simp only [andI, decI] at h
      obtain ⟨⟨⟨⟨⟨⟨rfl, hs⟩, h1⟩, h2⟩, h3⟩, h4⟩, h5⟩ := h
      refine snd_f (fun g => f_lc G.calm G.nd (chk_sound it ck (.i false) _ _ X G h1 g) (by rw [G.N, G.sc]; exact blkOk_by h2) ownOf_snd (fun s H C cl fp => tg_sound (G.blk s H _ cl C fp) h3) (fun s H C cl fp => chkC_sound cnd _ _ _ (G.blk s H _ cl C fp) h4)
        (fun s H C cl fp => eg fun g => chk_sound elt _ .e noE _ _ (G.blk s H _ cl C fp) h5 g) (notSet_ok hs _)) lc_lst hp
    · cases h
  | .lc2 elt tg it cnd tg2 it2 cnd2, ck, md, te, x, X, G, h => by
    rw [chk_lc2, Bool.and_eq_true] at h
    obtain ⟨h, hp⟩ := h
    split at h
    · simp only [andI, decI] at h
      obtain ⟨⟨⟨⟨⟨⟨⟨⟨⟨⟨⟨rfl, rfl⟩, hs⟩, hs2⟩, h1⟩, h2⟩, h3⟩, h4⟩, h5⟩, h6⟩, h7⟩, h8⟩ := h
      refine snd_f (fun g => peWeak (pe_lc2 G.calm G.nd (chk_sound it ck (.i false) _ _ X G h1 g) (own := ownOf ck (tg.slots ++ tg2.slots)) (vs1 := tg2.slots) (by rw [G.N, G.sc]; exact blkOk_by h2) (fun i hi => by rw [ownOf_snd]; exact List.mem_append_right _ hi)
        (fun s H C cl fp => tg_sound (G.blk s H _ cl C fp) h3) (fun s H C cl fp => chkC_sound cnd _ _ _ (G.blk s H _ cl C fp) h4)
        (fun s H C cl fp => ig fun g => chk_sound it2 _ (.i false) _ _ _ (G.blk s H _ cl C fp) h5 g) (fun s H C cl fp => tg_sound (G.blk s H _ cl C fp) h6) (fun s H C cl fp => chkC_sound cnd2 _ _ _ (G.blk s H _ cl C fp) h7)
        (fun s H C cl fp => eg fun g => chk_sound elt _ .e noE _ _ (G.blk s H _ cl C fp) h8 g) (notSet_ok hs _) (fun env => notSet_ok hs2 env)) fun σ H Q q => by rw [ownOf_snd]; exact lc2_reads q) lc2_lst hp
    · cases h
  | .pop a, ck, md, te, x, X, G, h => by
    rw [chk_pop, Bool.and_eq_true] at h
    obtain ⟨h, hp⟩ := h
    split at h
    · simp only [andI, decI] at h
      obtain ⟨⟨⟨rfl, hl⟩, hc⟩, h1⟩ := h
      refine snd_e (fun g => e_pop (chk_sound a ck .e noE _ X G h1 g) ?_ hl) hp
      rename_i y _ _
      cases y <;> first | rfl | cases hc
    · cases h
  | .enm a, ck, md, te, x, X, G, h => by
    rw [chk_enm] at h
    split at h
    · simp only [andI, decI] at h
      obtain ⟨⟨⟨⟨⟨rfl, hb⟩, ns⟩, hw⟩, ht⟩, h1⟩ := h
      obtain ⟨b1, b2⟩ := G.isBlt hb
      cases md with
      | i b =>
        cases te <;> first | cases ht | skip
        exact fun g => i_enum b1 b2 (chk_sound a ck (.w b) noE _ X G h1 g) ns
      | _ => cases hw
    · cases h
  | .zip a b, ck, md, te, x, X, G, h => by
    rw [chk_zip] at h
    split at h
    · simp only [andI, decI] at h
      obtain ⟨⟨⟨⟨⟨⟨⟨rfl, hb⟩, n1⟩, n2⟩, hw⟩, ht⟩, h1⟩, h2⟩ := h
      obtain ⟨b1, b2⟩ := G.isBlt hb
      cases md with
      | i b' =>
        cases te <;> first | cases ht | skip
        exact fun g => i_zip b1 b2 (chk_sound a ck (.w b') noE _ X G h1 g) (chk_sound b ck (.w b') noE _ X G h2 g) n1 n2
      | _ => cases hw
    · cases h
theorem chkEs_sound : ∀ (cs : List E) (ck : Ck) (xs : List Expr) (X : Cx), Good Γ X ck → chkEs ck cs xs = true → (∀ g, PA X xs (tEs X.K Γ g cs)) ∧ xs.length = cs.length
  | [], ck, [], X, G, h => ⟨fun g => es_nil, rfl⟩
  | [], ck, _ :: _, X, G, h => by simp [chkEs] at h
  | _ :: _, ck, [], X, G, h => by simp [chkEs] at h
  | c :: cs, ck, x :: xs, X, G, h => by
    rw [chkEs] at h
    simp only [andI] at h
    obtain ⟨h1, h2⟩ := chkEs_sound cs ck xs X G h.2
    exact ⟨fun g => es_cons (chk_sound c ck .e noE x X G h.1.2 g) (h1 g) h.1.1, congrArg (· + 1) h2⟩
theorem chkMs_sound : ∀ (cs : List E) (ck : Ck) (bs : List Bool) (xs : List Expr) (X : Cx), Good Γ X ck → chkMs ck bs cs xs = true → AsOk Γ X bs cs xs
  | [], ck, [], [], X, G, h => .nil
  | [], ck, _ :: _, _, X, G, h => by simp [chkMs] at h
  | [], ck, [], _ :: _, X, G, h => by simp [chkMs] at h
  | _ :: _, ck, [], _, X, G, h => by simp [chkMs] at h
  | _ :: _, ck, _ :: _, [], X, G, h => by simp [chkMs] at h
  | c :: cs, ck, b :: bs, x :: xs, X, G, h => by
    rw [chkMs] at h
    simp only [andI] at h
    have h1 := chkMs_sound cs ck bs xs X G h.2
    cases b with
    | false => exact .val h.1.1 (chk_sound c ck .e noE x X G h.1.2) h1
    | true => exact .bor h.1.1 (chk_sound c ck .v noE x X G h.1.2) h1
theorem chkC_sound : ∀ (cs : List E) (ck : Ck) (xs : List Expr) (X : Cx), Good Γ X ck → chkC ck cs xs = true → PTs X xs (tCg X.K Γ cs)
  | [], ck, [], X, G, h => c_nil
  | [], ck, _ :: _, X, G, h => by simp [chkC] at h
  | [c], ck, [x], X, G, h => by
    rw [chkC] at h
    exact c_one (chk_sound c ck .t noE x X G h).1
  | [_], ck, [], X, G, h => by simp [chkC] at h
  | [_], ck, _ :: _ :: _, X, G, h => by simp [chkC] at h
  | _ :: _ :: _, ck, [], X, G, h => by simp [chkC] at h
  | _ :: _ :: _, ck, _ :: _, X, G, h => by simp [chkC] at h
end
end
end Ev
end

section
set_option Elab.async false
set_option linter.all false
set_option maxRecDepth 100000
namespace Ev
open PySem L2 PyProof.Rows
variable [TabList]
section
variable {Γ : Nat → List D → Heap → R D} {X : Cx}
/-! ### a comprehension stored under a name -/
theorem set_lc {i : Nat} {y : Str} {py : Pos} {elt tg iter : Expr} {ifs : List Expr} {scope : Scope} {own : List (Str × Nat)} {pos spos : Pos} {c it : E} {cnd : List E} {t : Tg} (hc : X.calm = true) (hN : X.N.Nodup) (hy : X.N[i]? = some y) (hyl : X.env.scope.names.lookup y = some .local)
    (hsw : swapsWith (.ListComp elt [⟨tg, iter, ifs, 0⟩] scope pos) (some (.Name y py)) spos.line X.env = pure true) (hi : ∀ g, PI X tg iter (tI X.K Γ g false it)) (ok : BlkOk X.N X.env.scope scope own) (ho : own.map (·.2) = t.slots)
    (hg : ∀ (s : Shared) (H : Hp) (C : Addr) (cl : List (Str × Addr)) (fp : List Addr), PG (X.blk s H scope (compEnvC scope cl C X.env) fp) tg (gT X.K t))
    (ht : ∀ (s : Shared) (H : Hp) (C : Addr) (cl : List (Str × Addr)) (fp : List Addr), PTs (X.blk s H scope (compEnvC scope cl C X.env) fp) ifs (tCg X.K Γ cnd))
    (he : ∀ (s : Shared) (H : Hp) (C : Addr) (cl : List (Str × Addr)) (fp : List Addr), PE (X.blk s H scope (compEnvC scope cl C X.env) fp) elt (tEg X.K Γ c)) (hs : ∀ x, foldedSetIterable iter X.env x = pure x) {B : S}
    (hB : ∀ (D : Ends) σ H, tS X.K Γ B D σ H → tFg X.K Γ (.lc c t it cnd) σ H fun v H1 => D.nx (σ.set i (some v)) H1) :
    PS X (.Assign [.Name y py] (.ListComp elt [⟨tg, iter, ifs, 0⟩] scope pos) spos) (tS X.K Γ B) :=
  psWeak (ps_setLc hc hN hy hyl hsw (ig hi) ok hg ht he hs) fun D σ H q => by
    obtain ⟨g, q⟩ := hB D σ H q
    rw [ho]
    exact ⟨g, lc_reads q⟩
theorem set_lc2 {i : Nat} {y : Str} {py : Pos} {elt tg iter tg1 iter1 : Expr} {ifs ifs1 : List Expr} {scope : Scope} {own : List (Str × Nat)} {pos spos : Pos} {c it it2 : E} {cnd cnd2 : List E} {t t2 : Tg} (hc : X.calm = true) (hN : X.N.Nodup) (hy : X.N[i]? = some y) (hyl : X.env.scope.names.lookup y = some .local)
    (hsw : swapsWith (.ListComp elt [⟨tg, iter, ifs, 0⟩, ⟨tg1, iter1, ifs1, 0⟩] scope pos) (some (.Name y py)) spos.line X.env = pure true) (hi : ∀ g, PI X tg iter (tI X.K Γ g false it)) (ok : BlkOk X.N X.env.scope scope own) (ho : own.map (·.2) = t.slots ++ t2.slots)
    (hg : ∀ (s : Shared) (H : Hp) (C : Addr) (cl : List (Str × Addr)) (fp : List Addr), PG (X.blk s H scope (compEnvC scope cl C X.env) fp) tg (gT X.K t))
    (ht : ∀ (s : Shared) (H : Hp) (C : Addr) (cl : List (Str × Addr)) (fp : List Addr), PTs (X.blk s H scope (compEnvC scope cl C X.env) fp) ifs (tCg X.K Γ cnd))
    (hi1 : ∀ (s : Shared) (H : Hp) (C : Addr) (cl : List (Str × Addr)) (fp : List Addr), PI (X.blk s H scope (compEnvC scope cl C X.env) fp) tg1 iter1 (tIg X.K Γ false it2))
    (hg1 : ∀ (s : Shared) (H : Hp) (C : Addr) (cl : List (Str × Addr)) (fp : List Addr), PG (X.blk s H scope (compEnvC scope cl C X.env) fp) tg1 (gT X.K t2))
    (ht1 : ∀ (s : Shared) (H : Hp) (C : Addr) (cl : List (Str × Addr)) (fp : List Addr), PTs (X.blk s H scope (compEnvC scope cl C X.env) fp) ifs1 (tCg X.K Γ cnd2))
    (he : ∀ (s : Shared) (H : Hp) (C : Addr) (cl : List (Str × Addr)) (fp : List Addr), PE (X.blk s H scope (compEnvC scope cl C X.env) fp) elt (tEg X.K Γ c)) (hs : ∀ x, foldedSetIterable iter X.env x = pure x) (hs1 : ∀ env x, foldedSetIterable iter1 env x = pure x) {B : S}
    (hB : ∀ (D : Ends) σ H, tS X.K Γ B D σ H → tFg X.K Γ (.lc2 c t it cnd t2 it2 cnd2) σ H fun v H1 => D.nx (σ.set i (some v)) H1) :
    PS X (.Assign [.Name y py] (.ListComp elt [⟨tg, iter, ifs, 0⟩, ⟨tg1, iter1, ifs1, 0⟩] scope pos) spos) (tS X.K Γ B) :=
  psWeak (ps_setLc2 hc hN hy hyl hsw (ig hi) ok (vs1 := t2.slots) (fun i hi => by rw [ho]; exact List.mem_append_right _ hi) hg ht hi1 hg1 ht1 he hs hs1) fun D σ H q => by
    obtain ⟨g, q⟩ := hB D σ H q
    rw [ho]
    exact ⟨g, lc2_reads q⟩
theorem asg_fresh {i : Nat} {c : E} (hl : ∀ env hp d hp', evE reprL Γ c env hp = some (.ok d hp') → ∃ ds, d = .lst ds) (B : Ends) (σ : L2.St) (H : Hp) (q : tS X.K Γ (.asg (.name i) c) B σ H) : tFg X.K Γ c σ H fun v H1 => B.nx (σ.set i (some v)) H1 := by
  obtain ⟨g, q⟩ := set_reads q
  exact ⟨g, f_of hl q⟩
/-! ### x op= e -/
def augOf : Operator → Option Op2
  | .Add => some .add
  | .Mult => some .mul
  | _ => none
theorem aug_ok {op : Operator} {o : Op2} (h : augOf op = some o) : PIp X op fun x y H Q => ∃ (Fb : Addr → Prop) (m : List Addr) (d d' r : D), Rep X.K Fb m H x d ∧ Rep X.K Fb m H y d' ∧ augOp o d d' = some r ∧ ∀ v, (∀ Fb m H, Rep X.K Fb m H v r) → Q v H := by
  rintro pins s σ H x y v u Q I rx ry ⟨Fb, m, d, d', r, hx, hy, ho, q⟩
  cases op <;> simp only [augOf, reduceCtorEq, Option.some.injEq] at h <;> subst h
  · cases d <;> cases d' <;> simp only [augOp, reduceCtorEq, Option.some.injEq, Option.ite_none_right_eq_some] at ho
    · subst ho
      cases hx
      cases hy
      exact iop_add pins s σ H _ _ v u Q I rx ry ⟨_, _, rfl, rfl, q _ fun _ _ _ => .int _⟩
    · obtain ⟨hl, rfl⟩ := ho
      cases hx
      cases hy
      obtain ⟨t, rfl⟩ := rx
      obtain ⟨t', rfl⟩ := ry
      exact PyProof.Rows.iadd_str (fun t' tk => ⟨.str _, H, I.tok _, ⟨_, rfl⟩, q _ fun _ _ _ => .str _⟩) (by rw [← LIM_eq]; exact hl)
  · cases d <;> cases d' <;> simp only [augOp, reduceCtorEq, Option.some.injEq, Option.ite_none_right_eq_some] at ho
    obtain ⟨hl, rfl⟩ := ho
    cases hx
    cases hy
    obtain ⟨t, rfl⟩ := rx
    obtain ⟨t', rfl⟩ := ry
    exact PyProof.Rows.imul_int ⟨.int _, H, I.tok _, ⟨_, rfl⟩, q _ fun _ _ _ => .int _⟩ (mulOk_ok hl)
end
end Ev
end

section
set_option Elab.async false
set_option linter.all false
set_option maxRecDepth 100000
namespace Ev
open PySem L2 PyProof.Rows
variable [TabList]
/-! ### the checker of statements -/
def isFun (sc : Scope) : Bool := match sc.kind with
  | .function => true
  | _ => false
/-- what is stored under a name: true, if a comprehension's store is exchanged -/
def swB (sc : Scope) (x : Str) (p : Pos) : Expr → Bool
  | .ListComp _ _ s q => sc.names.lookup x == some .local && p.line == q.line && !(s.names.any fun (n, k) => n == x && (k == .local || k == .cell))
  | _ => false
def okVal : Expr → Bool
  | .SetComp .. | .DictComp .. => false
  | _ => true
theorem swB_ok {sc : Scope} {x : Str} {p : Pos} {v : Expr} {l : Nat} {env : PySem.Env} (hs : env.scope = sc) (hf : isFun sc = true) (hv : okVal v = true) : swapsWith v (some (.Name x p)) l env = pure (swB sc x p v) := by
  have hk : env.scope.kind = .function := by
    rw [hs]
    unfold isFun at hf
    split at hf
    · assumption
    · cases hf
  have hb : env.blockKind = .function := by
    unfold PySem.Env.blockKind
    rw [hk]
    rfl
  have hx : env.kindOf x = sc.names.lookup x := by
    unfold PySem.Env.kindOf
    rw [hs]
  cases v <;> first | rfl | cases hv | skip
  rename_i elt gs s q
  unfold swapsWith
  simp only [hb, hx, Expr.pos, swB]
  show pure _ = pure _
  congr 1
def isTuple : Expr → Bool
  | .Tuple .. | .List .. => true
  | _ => false
theorem swSole_ok {t v : Expr} {l : Nat} {env : PySem.Env} (h : notComp v = true) : swapsWithSole [t] v l env = pure false := notComp_ok h (some t) l env
theorem noSwap_t {t v : Expr} {env : PySem.Env} (h : isTuple t = false) : swappedStores [t] v env = pure none := by
  cases t <;> first | rfl | cases h
theorem noSwap_v {t v : Expr} {env : PySem.Env} (h : isTuple v = false) : swappedStores [t] v env = pure none := by
  cases v <;> first | (cases t <;> rfl) | cases h
/-- the stores are not exchanged: of a length of four or more, or constants alone -/
def cellPar (sc : Scope) (es : List Expr) : Bool := es.any fun e => match e with
  | .Name x _ => !decide (sc.names.lookup x = some .local)
  | _ => false
def flatPar (sc : Scope) (es vs : List Expr) : Bool := decide (4 ≤ es.length) || vs.all (foldedForSure 8) || cellPar sc es
theorem fm_lt {α β : Type} {F : α → Option β} : ∀ {l : List α}, (∃ x ∈ l, F x = none) → (l.filterMap F).length < l.length
  | [], ⟨x, hx, _⟩ => by cases hx
  | y :: l, ⟨x, hx, h⟩ => by
    rw [List.filterMap_cons]
    rcases List.mem_cons.mp hx with z | z
    · rw [← z, h]
      exact Nat.lt_succ_of_le (List.length_filterMap_le F l)
    · have := fm_lt ⟨x, z, h⟩
      cases F y with
      | none => exact Nat.lt_succ_of_lt this
      | some b => exact Nat.succ_lt_succ this
theorem noSwap_par {es vs : List Expr} {k k2 : Nat} {p p2 : Pos} {env : PySem.Env} {sc : Scope} (hsc : env.scope = sc) (h : flatPar sc es vs = true) : swappedStores [.Tuple es k p] (.Tuple vs k2 p2) env = pure none := by
  unfold swappedStores
  simp only
  split
  · rfl
  · rename_i h1
    split
    · rfl
    · split
      · rfl
      · rename_i hnm
        unfold flatPar at h
        rw [Bool.or_eq_true, Bool.or_eq_true, decide_eq_true_eq] at h
        rcases h with (h | h) | h
        · exfalso
          simp only [Bool.or_eq_true, Bool.not_eq_true', Bool.or_eq_false_iff, not_or, beq_eq_false_iff_ne, bne_iff_ne, ne_eq] at h1
          have := h1.1.1
          simp at this
          omega
        · rw [if_pos h]
        · exfalso
          refine hnm ?_
          rw [Bool.or_eq_true]
          refine .inl ?_
          rw [bne_iff_ne]
          refine Nat.ne_of_lt (fm_lt ?_)
          obtain ⟨e, he, hc⟩ := List.any_eq_true.mp h
          refine ⟨e, he, ?_⟩
          cases e with
          | Name x q =>
            have hc : (!decide (sc.names.lookup x = some .local)) = true := hc
            have hk : (env.kindOf x == some NameKind.local) = false := by
              unfold PySem.Env.kindOf
              rw [hsc]
              rw [Bool.not_eq_true', decide_eq_false_iff_not] at hc
              exact beq_eq_false_iff_ne.mpr hc
            simp only [hk, Bool.false_and, Bool.false_eq_true, if_false]
          | _ => cases hc
def parNames (sc : Scope) (l : Nat) : List Expr → Bool
  | [] => true
  | .Name x p :: es => decide (sc.names.lookup x = some .local) && decide (p.line = l) && parNames sc l es
  | _ :: _ => false
def nameOf : Expr → Option Str
  | .Name x _ => some x
  | _ => none
/-- the stores are exchanged -/
def swapPar (sc : Scope) (es vs : List Expr) : Bool := isFun sc && (decide (es.length = 2) || decide (es.length = 3)) && decide (vs.length = es.length) && vs.all notStar && parNames sc ((es.head?.map (·.pos.line)).getD 0) es && decide ((es.filterMap nameOf).Nodup) && !(vs.all (foldedForSure 8)) && !(vs.all (constantsAlone 8))
theorem eraseDups_nodup : ∀ {l : List Str}, l.Nodup → l.eraseDups = l
  | [], _ => rfl
  | x :: l, h => by
    rw [List.eraseDups_cons]
    rw [List.nodup_cons] at h
    have : l.filter (fun b => !b == x) = l := List.filter_eq_self.mpr fun y hy => by
      have : y ≠ x := fun e => h.1 (e ▸ hy)
      simpa using this
    rw [this, eraseDups_nodup h.2]
theorem parNames_fm {sc : Scope} {l : Nat} {env : PySem.Env} (hs : env.scope = sc) (F : Expr → Option Str) (hF : ∀ x p, F (.Name x p) = if (env.kindOf x == some .local && p.line == l) = true then some x else none) : ∀ {es : List Expr}, parNames sc l es = true →
    es.filterMap F = es.filterMap nameOf ∧ (es.filterMap nameOf).length = es.length
  | [], _ => ⟨rfl, rfl⟩
  | e :: es, h => by
    cases e <;> simp only [parNames, reduceCtorEq] at h
    rename_i x p
    simp only [andI, decI] at h
    obtain ⟨⟨h1, h2⟩, h3⟩ := h
    obtain ⟨a1, a2⟩ := parNames_fm hs F hF h3
    have hx : env.kindOf x = some .local := by
      unfold PySem.Env.kindOf
      rw [hs]
      exact h1
    have e1 : F (.Name x p) = some x := by
      rw [hF, hx, h2]
      simp
    rw [List.filterMap_cons_some e1, List.filterMap_cons_some (show nameOf (.Name x p) = some x from rfl), a1]
    exact ⟨rfl, by simp [a2]⟩
theorem swap_par {sc : Scope} {es vs : List Expr} {k k2 : Nat} {p p2 : Pos} {env : PySem.Env} (hs : env.scope = sc) (h : swapPar sc es vs = true) : swappedStores [.Tuple es k p] (.Tuple vs k2 p2) env = pure (some (es.filterMap nameOf)) := by
  unfold swapPar at h
  simp only [Bool.and_eq_true, Bool.or_eq_true, decide_eq_true_eq, Bool.not_eq_true'] at h
  obtain ⟨⟨⟨⟨⟨⟨⟨hf, hl⟩, hl2⟩, hst⟩, hp⟩, hnd⟩, hfo⟩, hco⟩ := h
  have hk : env.blockKind = .function := by
    have : env.scope.kind = .function := by
      rw [hs]
      unfold isFun at hf
      split at hf
      · assumption
      · cases hf
    unfold PySem.Env.blockKind
    rw [this]
    rfl
  have a2 := (parNames_fm hs (fun e => match e with
      | .Name x p => if (env.kindOf x == some .local && p.line == ((es.head?.map (·.pos.line)).getD 0)) = true then some x else none
      | _ => none) (fun _ _ => rfl) hp).2
  unfold swappedStores
  simp only
  rw [if_neg]
  · rw [if_neg]
    · show (if _ then _ else _) = _
      rw [(parNames_fm hs _ (fun _ _ => rfl) hp).1, if_neg]
      · rw [if_neg (by simp [hfo]), if_neg (by simp [hco])]
      · rw [eraseDups_nodup hnd, a2]
        simp
    · simp only [List.any_eq_true, not_exists, not_and]
      intro e he
      have := List.all_eq_true.mp hst e he
      cases e <;> first | exact Bool.false_ne_true | cases this
  · rw [hk, hl2]
    rcases hl with e | e <;> rw [e] <;> decide
end Ev
end

section
set_option Elab.async false
set_option linter.all false
set_option maxRecDepth 100000
namespace Ev
open PySem L2 PyProof.Rows
variable [TabList]
/-! ### names of a parallel store; its values -/
def chkNames (ck : Ck) : List (Bool × Nat) → List Expr → Bool
  | [], [] => true
  | (_, i) :: ts, .Name x _ :: es => ck.loc i x && chkNames ck ts es
  | _, _ => false
def chkPs (ck : Ck) : List Bool → List E → List Expr → Bool
  | [], [], [] => true
  | f :: fs, c :: cs, x :: xs => notStar x && chk ck (if f then .f else .e) noE c x && chkPs ck fs cs xs
  | _, _, _ => false
def isName : Expr → Bool
  | .Name .. => true
  | _ => false
section
variable {Γ : Nat → List D → Heap → R D} {X : Cx} {ck : Ck}
theorem chkPs_sound (G : Good Γ X ck) : ∀ {fs : List Bool} {cs : List E} {xs : List Expr}, chkPs ck fs cs xs = true → PA X xs (tP X.K Γ fs cs) ∧ xs.length = cs.length ∧ fs.length = cs.length
  | [], [], [], _ => ⟨p_nil, rfl, rfl⟩
  | [], [], _ :: _, h => by simp [chkPs] at h
  | [], _ :: _, _, h => by simp [chkPs] at h
  | _ :: _, [], _, h => by simp [chkPs] at h
  | _ :: _, _ :: _, [], h => by simp [chkPs] at h
  | f :: fs, c :: cs, x :: xs, h => by
    rw [chkPs] at h
    simp only [andI] at h
    obtain ⟨h1, h2, h3⟩ := chkPs_sound G h.2
    refine ⟨?_, congrArg (· + 1) h2, congrArg (· + 1) h3⟩
    cases f with
    | false => exact p_val (chk_sound c ck .e noE x X G h.1.2) h1 h.1.1
    | true => exact p_own (chk_sound c ck .f noE x X G h.1.2) h1 h.1.1
theorem chkNames_gn (G : Good Γ X ck) : ∀ {ts : List (Bool × Nat)} {es : List Expr}, chkNames ck ts es = true → PGs X es (gNames (ts.map (·.2))) ∧ es.length = ts.length ∧ es.all notStar = true
  | [], [], _ => ⟨gn_nil, rfl, rfl⟩
  | [], _ :: _, h => by simp [chkNames] at h
  | (_, _) :: _, [], h => by simp [chkNames] at h
  | (f, i) :: ts, e :: es, h => by
    cases e <;> simp only [chkNames, reduceCtorEq] at h
    rw [Bool.and_eq_true] at h
    obtain ⟨h1, h2, h3⟩ := G.loc h.1
    obtain ⟨k1, k2, k3⟩ := chkNames_gn G h.2
    exact ⟨gn_cons G.nd h1 h2 h3 k1, congrArg (· + 1) k2, by rw [List.all_cons, k3]; rfl⟩
theorem local_of (G : Good Γ X ck) {x : Str} {l : Nat} {p : Pos} {es : List Expr} (h : parNames ck.sc l (.Name x p :: es) = true) : X.env.scope.names.lookup x = some .local ∧ parNames ck.sc l es = true := by
  rw [parNames] at h
  simp only [andI, decI] at h
  exact ⟨by rw [G.sc]; exact h.1.1, h.2⟩
theorem slot_ne (G : Good Γ X ck) {i j : Nat} {x y : Str} (hi : X.N[i]? = some x) (hj : X.N[j]? = some y) (h : x ≠ y) : i ≠ j := fun e => by
  subst e
  rw [hi] at hj
  exact h (Option.some.inj hj)
/-- a, b = .. -/
theorem par_sound (G : Good Γ X ck) {es vs : List Expr} {k k2 : Nat} {p1 p2 pos : Pos} {ts : List (Bool × Nat)} {cs : List E} (hn : chkNames ck ts es = true) (hv : chkPs ck (ts.map (·.1)) cs vs = true) (hl : cs.length ≤ 1000) (hs : swapPar ck.sc es vs = true ∨ flatPar ck.sc es vs = true) :
    PS X (.Assign [.Tuple es k p1] (.Tuple vs k2 p2) pos) (tS X.K Γ (.par ts cs)) := by
  obtain ⟨q1, q2, q3⟩ := chkPs_sound G hv
  obtain ⟨g1, g2, g3⟩ := chkNames_gn G hn
  rcases hs with hs | hs
  · have sw := swap_par (k := k) (k2 := k2) (p := p1) (p2 := p2) G.sc hs
    unfold swapPar at hs
    simp only [Bool.and_eq_true, Bool.or_eq_true, decide_eq_true_eq, Bool.not_eq_true'] at hs
    obtain ⟨⟨⟨⟨⟨⟨⟨hf, hlen⟩, hl2⟩, hst⟩, hp⟩, hnd⟩, hfo⟩, hco⟩ := hs
    rcases hlen with e | e
    · match es, e, hn, hp, hnd, sw, hl2, g2 with
      | [a, b], _, hn, hp, hnd, sw, hl2, g2 =>
        match ts, g2, hn, hv, q1 with
        | [(f1, i), (f2, j)], _, hn, hv, q1 =>
          cases a <;> simp only [chkNames, reduceCtorEq] at hn
          cases b <;> simp only [chkNames, reduceCtorEq, Bool.and_eq_true, Bool.false_eq_true, and_false] at hn
          match vs, hl2, q1, hv, sw with
          | [u, v], _, q1, hv, sw =>
            obtain ⟨l1, l2⟩ := local_of G hp
            obtain ⟨l3, _⟩ := local_of G l2
            obtain ⟨n1, _⟩ := G.loc hn.1
            obtain ⟨n2, _⟩ := G.loc hn.2.1
            have ne := List.nodup_cons.mp (show [_, _].Nodup from hnd)
            exact s_par2 G.calm G.nd n1 n2 (slot_ne G n1 n2 (by simpa using ne.1)) l1 l3 q1 sw
    · match es, e, hn, hp, hnd, sw, hl2, g2 with
      | [a, b, c], _, hn, hp, hnd, sw, hl2, g2 =>
        match ts, g2, hn, hv, q1 with
        | [(f1, i), (f2, j), (f3, l)], _, hn, hv, q1 =>
          cases a <;> simp only [chkNames, reduceCtorEq] at hn
          cases b <;> simp only [chkNames, reduceCtorEq, Bool.and_eq_true, Bool.false_eq_true, and_false] at hn
          cases c <;> simp only [chkNames, reduceCtorEq, Bool.and_eq_true, Bool.false_eq_true, and_false] at hn
          match vs, hl2, q1, hv, sw with
          | [u, v, w], _, q1, hv, sw =>
            obtain ⟨l1, l2⟩ := local_of G hp
            obtain ⟨l3, l4⟩ := local_of G l2
            obtain ⟨l5, _⟩ := local_of G l4
            obtain ⟨n1, _⟩ := G.loc hn.1
            obtain ⟨n2, _⟩ := G.loc hn.2.1
            obtain ⟨n3, _⟩ := G.loc hn.2.2.1
            have nd := (show [_, _, _].Nodup from hnd)
            simp only [List.nodup_cons, List.mem_cons, List.not_mem_nil, or_false, not_or] at nd
            exact s_par3 G.calm G.nd n1 n2 n3 (slot_ne G n1 n2 nd.1.1) (slot_ne G n1 n3 nd.1.2) (slot_ne G n2 n3 nd.2.1) l1 l3 l5 q1 sw
  · obtain ⟨b1, b2⟩ := asgEach_ok g3 X.env
    exact s_parN G.calm (Nat.le_trans hl (by decide)) (by rw [← q3, List.length_map]) q1 g1 (b1.trans g2) b2 (swSole_ok rfl) (noSwap_par G.sc hs) rfl
end
end Ev
end

section
set_option Elab.async false
set_option linter.all false
set_option maxRecDepth 100000
namespace Ev
open PySem L2 PyProof.Rows
variable [TabList]
def isLc : E → Bool
  | .lc .. | .lc2 .. => true
  | _ => false
def isStarTuple : Expr → Expr → Bool
  | .Tuple .., .Tuple .. => true
  | _, _ => false
mutual
def chkS (ck : Ck) : S → Stmt → Bool
  | .asg tg c, st => (match st with
      | .Assign [te] v _ => okVal v && isFun ck.sc && chk ck .e noE c v && (match te with
          | .Name x p => (match tg with | .name i => ck.loc i x | _ => false) && (!(swB ck.sc x p v) || isLc c)
          | .Tuple _ _ _ => chkTg ck tg te && notComp v && !(isTuple v)
          | _ => false)
      | _ => false)
  | .par ts cs, st => (match st with
      | .Assign [.Name x p] v _ => (match ts, cs with
          | [(true, i)], [c] => okVal v && isFun ck.sc && chk ck .f noE c v && ck.loc i x && (!(swB ck.sc x p v) || isLc c)
          | _, _ => false)
      | .Assign [.Tuple es _ _] (.Tuple vs _ _) _ => chkNames ck ts es && chkPs ck (ts.map (·.1)) cs vs && decide (cs.length ≤ 1000) && (swapPar ck.sc es vs || flatPar ck.sc es vs)
      | _ => false)
  | .frz _, _ => false
  | .aug i o c, st => (match st with
      | .AugAssign (.Name x _) op v _ => ck.loc i x && decide (augOf op = some o) && chk ck .e noE c v
      | _ => false)
  | .app i c, st => (match st with
      | .Expr (.Call (.Attribute (.Name x _) nm ap) [y] [] cp) _ => decide (nm = "append") && ck.vis i x && notStar y && (ap.endLine == cp.line) && chk ck .e noE c y
      | _ => false)
  | .boxApp b c, st => (match st with
      | .Expr (.Call (.Attribute o nm ap) [y] [] cp) _ => decide (nm = "append") && notCall o && notStar y && (ap.endLine == cp.line) && chk ck .e noE b o && chk ck .e noE c y
      | _ => false)
  | .boxSet b i c, st => (match st with
      | .Assign [.Subscript o y _] v _ => notSlice y && notComp v && chk ck .e noE b o && chk ck .e noE i y && chk ck .e noE c v
      | _ => false)
  | .setO n i c, st => (match st with
      | .Assign [.Subscript (.Name x _) y _] v _ => ck.vis n x && notSlice y && notComp v && chk ck .e noE i y && chk ck .e noE c v
      | _ => false)
  | .ex c, st => (match st with
      | .Expr v _ => notComp v && chk ck .e noE c v
      | _ => false)
  | .ifs t a b, st => (match st with
      | .If y xa xb _ => chk ck .t noE t y && chkSs ck a xa && chkSs ck b xb
      | _ => false)
  | .whil t b, st => (match st with
      | .While y xb [] _ => chk ck .t noE t y && chkSs ck b xb
      | _ => false)
  | .for tg it b, st => (match st with
      | .For te ie xb [] _ => chkTg ck tg te && notSet ie && chk ck (.i true) te it ie && chkSs ck b xb
      | _ => false)
  | .ret c, st => (match st with
      | .Return (some v) _ => chk ck .e noE c v
      | _ => false)
  | .brk, st => (match st with
      | .Break _ => true
      | _ => false)
  | .cont, st => (match st with
      | .Continue _ => true
      | _ => false)
  | .pass, st => (match st with
      | .Pass _ => true
      | _ => false)
def chkSs (ck : Ck) : List S → List Stmt → Bool
  | [], [] => true
  | s :: ss, sts => (match s with
      | .frz _ => chkSs ck ss sts
      | s => (match sts with
          | st :: sts => chkS ck s st && chkSs ck ss sts
          | [] => false))
  | [], _ :: _ => false
end
theorem chkS_asg (ck : Ck) (st : Stmt) (tg : Tg) (c : E) : chkS ck (.asg tg c) st = ((match st with
      | .Assign [te] v _ => okVal v && isFun ck.sc && chk ck .e noE c v && (match te with
          | .Name x p => (match tg with | .name i => ck.loc i x | _ => false) && (!(swB ck.sc x p v) || isLc c)
          | .Tuple _ _ _ => chkTg ck tg te && notComp v && !(isTuple v)
          | _ => false)
      | _ => false)) := rfl
theorem chkS_par (ck : Ck) (st : Stmt) (ts : List (Bool × Nat)) (cs : List E) : chkS ck (.par ts cs) st = ((match st with
      | .Assign [.Name x p] v _ => (match ts, cs with
          | [(true, i)], [c] => okVal v && isFun ck.sc && chk ck .f noE c v && ck.loc i x && (!(swB ck.sc x p v) || isLc c)
          | _, _ => false)
      | .Assign [.Tuple es _ _] (.Tuple vs _ _) _ => chkNames ck ts es && chkPs ck (ts.map (·.1)) cs vs && decide (cs.length ≤ 1000) && (swapPar ck.sc es vs || flatPar ck.sc es vs)
      | _ => false)) := rfl
theorem chkS_aug (ck : Ck) (st : Stmt) (i : Nat) (o : Op2) (c : E) : chkS ck (.aug i o c) st = ((match st with
      | .AugAssign (.Name x _) op v _ => ck.loc i x && decide (augOf op = some o) && chk ck .e noE c v
      | _ => false)) := rfl
theorem chkS_app (ck : Ck) (st : Stmt) (i : Nat) (c : E) : chkS ck (.app i c) st = ((match st with
      | .Expr (.Call (.Attribute (.Name x _) nm ap) [y] [] cp) _ => decide (nm = "append") && ck.vis i x && notStar y && (ap.endLine == cp.line) && chk ck .e noE c y
      | _ => false)) := rfl
theorem chkS_boxApp (ck : Ck) (st : Stmt) (b : E) (c : E) : chkS ck (.boxApp b c) st = ((match st with
      | .Expr (.Call (.Attribute o nm ap) [y] [] cp) _ => decide (nm = "append") && notCall o && notStar y && (ap.endLine == cp.line) && chk ck .e noE b o && chk ck .e noE c y
      | _ => false)) := rfl
theorem chkS_boxSet (ck : Ck) (st : Stmt) (b : E) (i : E) (c : E) : chkS ck (.boxSet b i c) st = ((match st with
      | .Assign [.Subscript o y _] v _ => notSlice y && notComp v && chk ck .e noE b o && chk ck .e noE i y && chk ck .e noE c v
      | _ => false)) := rfl
theorem chkS_setO (ck : Ck) (st : Stmt) (n : Nat) (i : E) (c : E) : chkS ck (.setO n i c) st = ((match st with
      | .Assign [.Subscript (.Name x _) y _] v _ => ck.vis n x && notSlice y && notComp v && chk ck .e noE i y && chk ck .e noE c v
      | _ => false)) := rfl
theorem chkS_ex (ck : Ck) (st : Stmt) (c : E) : chkS ck (.ex c) st = ((match st with
      | .Expr v _ => notComp v && chk ck .e noE c v
      | _ => false)) := rfl
theorem chkS_ifs (ck : Ck) (st : Stmt) (t : E) (a : List S) (b : List S) : chkS ck (.ifs t a b) st = ((match st with
      | .If y xa xb _ => chk ck .t noE t y && chkSs ck a xa && chkSs ck b xb
      | _ => false)) := rfl
theorem chkS_whil (ck : Ck) (st : Stmt) (t : E) (b : List S) : chkS ck (.whil t b) st = ((match st with
      | .While y xb [] _ => chk ck .t noE t y && chkSs ck b xb
      | _ => false)) := rfl
theorem chkS_for (ck : Ck) (st : Stmt) (tg : Tg) (it : E) (b : List S) : chkS ck (.for tg it b) st = ((match st with
      | .For te ie xb [] _ => chkTg ck tg te && notSet ie && chk ck (.i true) te it ie && chkSs ck b xb
      | _ => false)) := rfl
theorem chkS_ret (ck : Ck) (st : Stmt) (c : E) : chkS ck (.ret c) st = ((match st with
      | .Return (some v) _ => chk ck .e noE c v
      | _ => false)) := rfl
theorem chkS_brk (ck : Ck) (st : Stmt)  : chkS ck (.brk) st = ((match st with
      | .Break _ => true
      | _ => false)) := rfl
theorem chkS_cont (ck : Ck) (st : Stmt)  : chkS ck (.cont) st = ((match st with
      | .Continue _ => true
      | _ => false)) := rfl
theorem chkS_pass (ck : Ck) (st : Stmt)  : chkS ck (.pass) st = ((match st with
      | .Pass _ => true
      | _ => false)) := rfl
end Ev
end

section
set_option Elab.async false
set_option linter.all false
set_option maxRecDepth 100000
namespace Ev
open PySem L2 PyProof.Rows
variable [TabList]
section
variable {Γ : Nat → List D → Heap → R D} {X : Cx} {ck : Ck}
theorem swB_local (G : Good Γ X ck) {x : Str} {p : Pos} {v : Expr} (h : swB ck.sc x p v = true) : X.env.scope.names.lookup x = some .local := by
  cases v <;> simp only [swB, reduceCtorEq, Bool.and_eq_true, beq_iff_eq] at h
  rw [G.sc]
  exact h.1.1
theorem lc_store (G : Good Γ X ck) {md : Md} {c : E} {x : Str} {p pos : Pos} {v : Expr} {i : Nat} {B : S} (hc : isLc c = true) (h : chk ck md noE c v = true) (hsw : swB ck.sc x p v = true) (hf : isFun ck.sc = true) (ho : okVal v = true) (hl : ck.loc i x = true)
    (hB : ∀ (D : Ends) σ H, tS X.K Γ B D σ H → tFg X.K Γ c σ H fun v H1 => D.nx (σ.set i (some v)) H1) : PS X (.Assign [.Name x p] v pos) (tS X.K Γ B) := by
  have sw := (swB_ok (l := pos.line) (p := p) (x := x) G.sc hf ho).trans (by rw [hsw])
  have hy := swB_local G hsw
  obtain ⟨n1, _, _⟩ := G.loc hl
  cases c <;> first | cases hc | skip
  · rename_i elt tg it cnd
    rw [chk_lc, Bool.and_eq_true] at h
    obtain ⟨h, hp⟩ := h
    split at h
    · simp only [andI, decI] at h
      obtain ⟨⟨⟨⟨⟨⟨rfl, hs⟩, h1⟩, h2⟩, h3⟩, h4⟩, h5⟩ := h
      exact set_lc G.calm G.nd n1 hy sw (chk_sound it ck (.i false) _ _ X G h1) (by rw [G.N, G.sc]; exact blkOk_by h2) ownOf_snd (fun s H C cl fp => tg_sound (G.blk s H _ cl C fp) h3) (fun s H C cl fp => chkC_sound cnd _ _ _ (G.blk s H _ cl C fp) h4)
        (fun s H C cl fp => eg fun g => chk_sound elt _ .e noE _ _ (G.blk s H _ cl C fp) h5 g) (notSet_ok hs _) hB
    · cases h
  · rename_i elt tg it cnd tg2 it2 cnd2
    rw [chk_lc2, Bool.and_eq_true] at h
    obtain ⟨h, hp⟩ := h
    split at h
    · simp only [andI, decI] at h
      obtain ⟨⟨⟨⟨⟨⟨⟨⟨⟨⟨⟨rfl, rfl⟩, hs⟩, hs2⟩, h1⟩, h2⟩, h3⟩, h4⟩, h5⟩, h6⟩, h7⟩, h8⟩ := h
      exact set_lc2 G.calm G.nd n1 hy sw (chk_sound it ck (.i false) _ _ X G h1) (by rw [G.N, G.sc]; exact blkOk_by h2) ownOf_snd (fun s H C cl fp => tg_sound (G.blk s H _ cl C fp) h3) (fun s H C cl fp => chkC_sound cnd _ _ _ (G.blk s H _ cl C fp) h4)
        (fun s H C cl fp => ig fun g => chk_sound it2 _ (.i false) _ _ _ (G.blk s H _ cl C fp) h5 g) (fun s H C cl fp => tg_sound (G.blk s H _ cl C fp) h6) (fun s H C cl fp => chkC_sound cnd2 _ _ _ (G.blk s H _ cl C fp) h7)
        (fun s H C cl fp => eg fun g => chk_sound elt _ .e noE _ _ (G.blk s H _ cl C fp) h8 g) (notSet_ok hs _) (fun env => notSet_ok hs2 env) hB
    · cases h
theorem isLc_lst {c : E} (h : isLc c = true) : ∀ env hp d hp', evE reprL Γ c env hp = some (.ok d hp') → ∃ ds, d = .lst ds := by
  cases c <;> first | cases h | skip
  · exact lc_lst
  · exact lc2_lst
theorem few_ok {y : Expr} (ns : notStar y = true) (cp : Pos) (env : PySem.Env) :
    ((backTo cp (starEach [y] env)).all (fun x => !x.1) && (backToKw cp (keywordEach [] env)).all (fun x => x.1.isSome) && decide ([y].length + ([] : List Keyword).length + (if ([] : List Keyword).isEmpty then 0 else 1) < 30)) = true := by
  rw [star_cons ns]
  rfl
mutual
theorem chkS_sound : ∀ (c : S) (ck : Ck) (st : Stmt) (X : Cx), Good Γ X ck → PassesOwn (model X.prog X.w) X.A X.env X.xe → chkS ck c st = true → PS X st (tS X.K Γ c)
  | .asg tg c, ck, st, X, G, P, h => by
    rw [chkS_asg] at h
    split at h
    · simp only [andI] at h
      obtain ⟨⟨⟨ho, hf⟩, h1⟩, h⟩ := h
      split at h
      · rw [Bool.and_eq_true] at h
        obtain ⟨ht, hw⟩ := h
        split at ht
        · rename_i v _ _ x p _ i
          by_cases e : swB ck.sc x p v = true
          · have hl : isLc c = true := by simpa [e] using hw
            exact lc_store G hl h1 e hf ho ht fun D σ H q => asg_fresh (isLc_lst hl) D σ H q
          · obtain ⟨n1, n2, n3⟩ := G.loc ht
            refine s_set G.nd n1 n2 (chk_sound c ck .e noE _ X G h1) ?_ n3
            rw [swB_ok G.sc hf ho, Bool.eq_false_iff.mpr e]
        · cases ht
      · simp only [Bool.and_eq_true, Bool.not_eq_true'] at h
        exact s_asg (chk_sound c ck .e noE _ X G h1) (tg_sound G h.1.1) (swSole_ok h.1.2) (noSwap_v h.2) rfl
      · cases h
    · cases h
  | .par ts cs, ck, st, X, G, P, h => by
    rw [chkS_par] at h
    split at h
    · split at h
      · simp only [andI] at h
        obtain ⟨⟨⟨⟨ho, hf⟩, h1⟩, hl⟩, hw⟩ := h
        rename_i x p v _ _ _ i c
        by_cases e : swB ck.sc x p v = true
        · have hlc : isLc c = true := by simpa [e] using hw
          exact lc_store G hlc h1 e hf ho hl fun D σ H q => own_reads q
        · obtain ⟨n1, n2, n3⟩ := G.loc hl
          refine s_own G.nd n1 n2 (chk_sound c ck .f noE _ X G h1) ?_ n3
          rw [swB_ok G.sc hf ho, Bool.eq_false_iff.mpr e]
      · cases h
    · simp only [Bool.and_eq_true, decide_eq_true_eq, Bool.or_eq_true] at h
      exact par_sound G h.1.1.1 h.1.1.2 h.1.2 h.2
    · cases h
  | .frz _, _, _, _, _, _, h => by cases h
  | .aug i o c, ck, st, X, G, P, h => by
    rw [chkS_aug] at h
    split at h
    · simp only [andI, decI] at h
      obtain ⟨n1, n2, n3⟩ := G.loc h.1.1
      exact s_aug G.nd n1 n2 (chk_sound c ck .e noE _ X G h.2) (aug_ok h.1.2) n3
    · cases h
  | .app i c, ck, st, X, G, P, h => by
    rw [chkS_app] at h
    split at h
    · simp only [andI, decI] at h
      obtain ⟨⟨⟨⟨rfl, hv⟩, ns⟩, hl⟩, h1⟩ := h
      obtain ⟨n1, n2, n3, n4⟩ := G.vis hv
      exact s_app n1 n2 n3 n4 (chk_sound c ck .e noE _ X G h1) ns rfl hl (few_ok ns _ _)
    · cases h
  | .boxApp b c, ck, st, X, G, P, h => by
    rw [chkS_boxApp] at h
    split at h
    · simp only [andI, decI] at h
      obtain ⟨⟨⟨⟨⟨rfl, hc⟩, ns⟩, hl⟩, h1⟩, h2⟩ := h
      refine s_boxApp (chk_sound b ck .e noE _ X G h1) (chk_sound c ck .e noE _ X G h2) ns ?_ hl (few_ok ns _ _)
      rename_i o _ _ _ _
      cases o <;> first | rfl | cases hc
    · cases h
  | .boxSet b i c, ck, st, X, G, P, h => by
    rw [chkS_boxSet] at h
    split at h
    · simp only [andI] at h
      obtain ⟨⟨⟨⟨hs, hn⟩, h1⟩, h2⟩, h3⟩ := h
      refine s_boxSet (chk_sound b ck .e noE _ X G h1) (chk_sound i ck .e noE _ X G h2) (chk_sound c ck .e noE _ X G h3) ?_ (swSole_ok hn) (noSwap_t rfl) rfl
      rename_i y _ _ _
      cases y <;> first | exact fun _ => rfl | cases hs
    · cases h
  | .setO n i c, ck, st, X, G, P, h => by
    rw [chkS_setO] at h
    split at h
    · simp only [andI] at h
      obtain ⟨⟨⟨⟨hv, hs⟩, hn⟩, h2⟩, h3⟩ := h
      obtain ⟨v1, v2, v3, v4⟩ := G.vis hv
      refine s_setO v1 v2 v3 v4 (chk_sound i ck .e noE _ X G h2) (chk_sound c ck .e noE _ X G h3) ?_ (swSole_ok hn) (noSwap_t rfl) rfl
      rename_i y _ _ _
      cases y <;> first | exact fun _ => rfl | cases hs
    · cases h
  | .ex c, ck, st, X, G, P, h => by
    rw [chkS_ex] at h
    split at h
    · rw [Bool.and_eq_true] at h
      exact s_ex (chk_sound c ck .e noE _ X G h.2) (notComp_ok h.1 _ _ _)
    · cases h
  | .ifs t a b, ck, st, X, G, P, h => by
    rw [chkS_ifs] at h
    split at h
    · simp only [andI] at h
      exact s_if (chk_sound t ck .t noE _ X G h.1.1).1 (chkSs_sound a ck _ X G P h.1.2) (chkSs_sound b ck _ X G P h.2)
    · cases h
  | .whil t b, ck, st, X, G, P, h => by
    rw [chkS_whil] at h
    split at h
    · rw [Bool.and_eq_true] at h
      exact s_while P (chk_sound t ck .t noE _ X G h.1).1 (chkSs_sound b ck _ X G P h.2)
    · cases h
  | .for tg it b, ck, st, X, G, P, h => by
    rw [chkS_for] at h
    split at h
    · simp only [andI] at h
      exact s_for P G.calm (chk_sound it ck (.i true) _ _ X G h.1.2) (tg_sound G h.1.1.1) (chkSs_sound b ck _ X G P h.2) (notSet_ok h.1.1.2 _)
    · cases h
  | .ret c, ck, st, X, G, P, h => by
    rw [chkS_ret] at h
    split at h
    · exact s_ret (chk_sound c ck .e noE _ X G h)
    · cases h
  | .brk, ck, st, X, G, P, h => by
    rw [chkS_brk] at h
    split at h
    · exact s_brk
    · cases h
  | .cont, ck, st, X, G, P, h => by
    rw [chkS_cont] at h
    split at h
    · exact s_cont
    · cases h
  | .pass, ck, st, X, G, P, h => by
    rw [chkS_pass] at h
    split at h
    · exact s_pass
    · cases h
theorem chkSs_sound : ∀ (cs : List S) (ck : Ck) (sts : List Stmt) (X : Cx), Good Γ X ck → PassesOwn (model X.prog X.w) X.A X.env X.xe → chkSs ck cs sts = true → PSs X sts (tSs X.K Γ cs)
  | [], ck, [], X, G, P, h => ss_nil
  | [], ck, _ :: _, X, G, P, h => by cases h
  | c :: cs, ck, sts, X, G, P, h => by
    have key : (∃ i, c = .frz i ∧ chkSs ck cs sts = true) ∨ ∃ st r, sts = st :: r ∧ chkS ck c st = true ∧ chkSs ck cs r = true := by
      cases c with
      | frz i => exact .inl ⟨i, rfl, h⟩
      | _ =>
        cases sts with
        | nil => cases h
        | cons st r =>
          have h := (Bool.and_eq_true _ _).mp h
          exact .inr ⟨st, r, rfl, h.1, h.2⟩
    rcases key with ⟨i, rfl, h⟩ | ⟨st, r, rfl, h1, h2⟩
    · exact ss_frz (chkSs_sound cs ck sts X G P h)
    · exact ss_cons (chkS_sound c ck st X G P h1) (chkSs_sound cs ck r X G P h2)
end
/-- a def, by the checker -/
theorem def_ok {P : Program} {w : World} {K : PySem.W.Frag} {mg : Str → Option Value} {base : PySem.Heap} {k : Nat} {f : Addr} {fd : FuncData} {ps : List Str} {name qual : Str} {st : Stmt} {fn : Fn} {ck : Ck} (F : Fun K name qual st f fd) (sc : FnScope ck.N ps (defScope st)) (hsc : ck.sc = defScope st) (hfn : ck.fn = fun _ => true)
    (hs : fn.slots = ck.N.length) (hm : fn.modes.length = ps.length) (hle : ps.length ≤ ck.N.length) (blt : ∀ x ∈ ck.blts, mg x = none)
    (fns : ∀ s ∈ ck.fns, ∃ j f fd, FnG P w K mg base CX0 j f fd s.ps (spF K (Γ s.idx) s.modes) ∧ j ≤ k ∧ mg s.name = some (.ref f) ∧ PySem.W.keepIn K (.ref f) = true ∧ Binds K fd s.ps [] ∧ ∀ q ∈ s.kbl, KB K fd s.ps q.1 q.2.1 q.2.2)
    (cons : ∀ p ∈ ck.cons, ∃ v u, mg p.1 = some u ∧ RelV v u ∧ ∀ Fb m H, Rep K Fb m H v p.2) (h : chkSs ck fn.body (defBody st) = true) : FnG P w K mg base CX0 (k + 1) f fd ps (spF K (evFn reprL Γ fn) fn.modes) := by
  refine fnE_of F sc hs hm hle fun cd B frs t M W room gu => ?_
  refine chkSs_sound fn.body ck (defBody st) _ ⟨rfl, sc.nd, hsc.symm, hfn.symm, rfl, gu, ?_, blt, fun s hs => ?_, cons⟩ PassesOwn.never h
  · have := room.un
    show (B.deeper (envOfC qual (defScope st) t.heap.objs.size f cd)).units + 66 < cLine
    omega
  · obtain ⟨j, f', fd', F', hj, r⟩ := fns s hs
    exact ⟨j, f', fd', F', room.mono hj, r⟩
end
end Ev
end

section
set_option Elab.async false
set_option linter.all false
set_option maxRecDepth 100000
namespace Ev
open PySem L2 PyProof.Rows
variable [TabList]
theorem binds_of {K : PySem.W.Frag} {fd : FuncData} {ps : List Str} (b : ∀ (s : Shared) (us : List Value), us.length = ps.length → BindsTo s fd ⟨us, []⟩ (ps.zip us)) : Binds K fd ps [] := fun s us _ hl => by
  rw [List.append_nil] at hl ⊢
  exact b s us hl
theorem ints_repL {K : PySem.W.Frag} {Fb : Addr → Prop} {m : List Addr} {H : Hp} : ∀ ns : List Int, RepL K Fb m H (ns.map V.int) (ns.map D.int)
  | [] => .nil
  | _ :: ns => .cons (.int _) (ints_repL ns)
/-- the law's promise, of the script -/
theorem script_sp {K : PySem.W.Frag} {M : Hp} {a : Addr} {ns : List Int} {G : List D → Heap → R D} (only : Only M) (sq : SqL K M a (ns.map V.int)) (ev : ∃ h, G [.lst (ns.map D.int)] [] = some (.ok (.bl true) h)) (tb : LamX.Tabs TabList.T M) :
    spF K G [true] [.ref a] M (fun v _ => v = .bl true) fun _ _ _ => False := by
  obtain ⟨h, ev⟩ := ev
  refine ⟨fun _ => False, [], [], [.lst (ns.map D.int)], .bl true, h, ⟨rfl, fun k xs h => by simp at h, List.nodup_nil, fun a z => z.elim, tb⟩, .bor (.lst ?_ (ints_repL ns)) .nil, ev, fun v H' m' _ _ r => ?_⟩
  · rcases sq with sq | sq
    · exact .inl ⟨sq, by simp⟩
    · exact .inr (.inr sq)
  · cases r
    rfl
theorem law_mk {C : FuncData → Prop} {K : PySem.W.Frag} {mg : Str → Option Value} {nm : Str} {fa : Addr} {k : Nat} {x : Str} {G : List D → Heap → R D} {P : Program} {w : World} (hmg : mg nm = some (.ref fa))
    (h : ∃ f fd, (∀ (P : Program) (w : World) (base : PySem.Heap), FnG P w K mg base CX0 k f fd [x] (spF K G [true])) ∧ mg nm = some (.ref f) ∧ PySem.W.keepIn K (.ref f) = true ∧ (∀ (s : Shared) (us : List Value), us.length = [x].length → BindsTo s fd ⟨us, []⟩ ([x].zip us)) ∧ C fd) :
    ∃ fd : FuncData, (∀ (s : Shared) (u : Value), BindsTo s fd ⟨[u], []⟩ [(x, u)]) ∧ ∀ base : PySem.Heap, K.In base → base.Ns mainGlobals mg → FnG P w K mg base CX0 k fa fd [x] (spF K G [true]) := by
  obtain ⟨f, fd, F, hm, _, hb, _⟩ := h
  cases hmg.symm.trans hm
  exact ⟨fd, fun s u => hb s [u] rfl, fun base _ _ => F P w base⟩
end Ev
end

section
set_option Elab.async false
set_option linter.all false
set_option maxRecDepth 100000
namespace K06
open PySem L2 Ev
variable [TabList]
def top (i : Nat) : Stmt := PySem.Challenge.pw_allworlds_k06_marks_cut_and_joined.main.body.getD i (.Pass ⟨0, 0, 0, 0⟩)
/-! run_end -/
def b0 : List S := [
  .whil (.and (.op2 .lt (.view 1) (.op1 .len (.view 0))) (.op2 .inn (.op2 .ix (.view 0) (.view 1)) (.view 2))) [.asg (.name 1) (.op2 .add (.view 1) (.cst (.int 1)))],
  .ret (.var 1)]
def f0 : Fn := ⟨3, [false, false, false], b0⟩
def G0 : List D → Ev.Heap → R D := evFn reprL (tab []) f0
def s0 : Sig := ⟨"run_end", 0, [false, false, false], ["text", "at", "signs"], []⟩
/-! mark_at -/
def b1 : List S := [
  .ifs (.op2 .inn (.op2 .ix (.view 0) (.view 1)) (.cst (.str "abcdefghijklmnopqrstuvwxyz"))) [.ret (.op3 .slice (.view 0) (.view 1) (.call 0 [(.var 0), (.var 1), (.cst (.str "abcdefghijklmnopqrstuvwxyz"))]))] [],
  .ret (.ite (.op2 .inn (.op2 .ix (.view 0) (.view 1)) (.cst (.str "0123456789"))) (.op3 .slice (.view 0) (.view 1) (.call 0 [(.var 0), (.var 1), (.cst (.str "0123456789"))])) (.op2 .ix (.view 0) (.view 1)))]
def f1 : Fn := ⟨2, [false, false], b1⟩
def G1 : List D → Ev.Heap → R D := evFn reprL (tab [G0]) f1
def s1 : Sig := ⟨"mark_at", 1, [false, false], ["text", "at"], []⟩
/-! marks_of -/
def b2 : List S := [
  .par [(true, 1), (false, 2), (false, 3), (false, 4)] [(.lst []), (.cst (.int 0)), (.cst (.int 0)), (.cst (.int 0))],
  .whil (.op2 .lt (.view 4) (.op1 .len (.view 0))) [.asg (.name 5) (.call 1 [(.var 0), (.var 4)]), .ifs (.op2 .ne (.view 5) (.cst (.str " "))) [.app 1 (.tup [(.var 2), (.op2 .sub (.view 4) (.view 3)), (.var 5)])] [], .asg (.name 4) (.op2 .add (.view 4) (.op1 .len (.view 5))), .ifs (.op2 .eq (.view 5) (.cst (.str "\n"))) [.par [(false, 2), (false, 3)] [(.op2 .add (.view 2) (.cst (.int 1))), (.var 4)]] []],
  .ret (.op1 .tuple (.view 1))]
def f2 : Fn := ⟨6, [false], b2⟩
def G2 : List D → Ev.Heap → R D := evFn reprL (tab [G0, G1]) f2
def s2 : Sig := ⟨"marks_of", 2, [false], ["text"], [(0, ["text"], [0])]⟩
/-! _law_heap -/
def b3 : List S := [
  .par [(false, 2), (false, 3)] [(.lc (.op2 .add (.op2 .mul (.cst (.int 2)) (.op1 .abs (.view 1))) (.op1 .int (.op2 .lt (.view 1) (.cst (.int 0))))) (.name 1) (.op2 .sto (.view 0) (.cst (.int 60))) []), (.cst (.int 60013))],
  .for (.name 1) (.peek 2) [.asg (.name 3) (.op2 .mod (.op1 .int (.op2 .add (.op2 .add (.op2 .mul (.view 3) (.cst (.int 69621))) (.op2 .mod (.op1 .int (.view 1)) (.cst (.int 2147483563)))) (.cst (.int 29)))) (.cst (.int 2147483647)))],
  .ret (.cell (.lst [(.cell (.op1 .rev (.lc (.var 1) (.name 1) (.view 2) [(.op2 .ge (.view 1) (.op2 .pow (.cst (.int 10)) (.cst (.int 18))))]))), (.var 3)]))]
def f3 : Fn := ⟨4, [true], b3⟩
def G3 : List D → Ev.Heap → R D := evFn reprL (tab [G0, G1, G2]) f3
def s3 : Sig := ⟨"_law_heap", 3, [true], ["_law_script"], []⟩
/-! _law_draw -/
def b4 : List S := [
  .whil (.and (.op2 .ne (.op2 .ix (.view 0) (.cst (.int 0))) (.lst [])) (.op2 .eq (.op2 .ix (.op2 .ix (.view 0) (.cst (.int 0))) (.op1 .neg (.cst (.int 1)))) (.cst (.int 0)))) [.ex (.pop (.op2 .ix (.view 0) (.cst (.int 0))))],
  .ifs (.op2 .ne (.op2 .ix (.view 0) (.cst (.int 0))) (.lst [])) [.asg (.name 2) (.pop (.op2 .ix (.view 0) (.cst (.int 0)))), .boxApp (.op2 .ix (.view 0) (.cst (.int 0))) (.op2 .fdiv (.view 2) (.view 1)), .ret (.op2 .mod (.op1 .int (.view 2)) (.view 1))] [],
  .boxSet (.var 0) (.cst (.int 1)) (.op2 .mod (.op1 .int (.op2 .add (.op2 .mul (.op2 .ix (.view 0) (.cst (.int 1))) (.cst (.int 48271))) (.cst (.int 17)))) (.cst (.int 2147483647))),
  .ret (.op2 .mod (.op1 .int (.op2 .fdiv (.op2 .ix (.view 0) (.cst (.int 1))) (.cst (.int 32)))) (.view 1))]
def f4 : Fn := ⟨3, [false, false], b4⟩
def G4 : List D → Ev.Heap → R D := evFn reprL (tab [G0, G1, G2, G3]) f4
def s4 : Sig := ⟨"_law_draw", 4, [false, false], ["_law_heap_here", "_law_many"], []⟩
/-! _law_pick -/
def b5 : List S := [
  .ret (.op2 .ix (.view 1) (.call 4 [(.var 0), (.op1 .len (.view 1))]))]
def f5 : Fn := ⟨2, [false, false], b5⟩
def G5 : List D → Ev.Heap → R D := evFn reprL (tab [G0, G1, G2, G3, G4]) f5
def s5 : Sig := ⟨"_law_pick", 5, [false, false], ["_law_heap_here", "_law_some"], []⟩
/-! _law_kind -/
def b6 : List S := [
  .ifs (.chain .le .le (.cst (.str "a")) (.view 0) (.cst (.str "z"))) [.ret (.cst (.int 1))] [],
  .ret (.ite (.chain .le .le (.cst (.str "0")) (.view 0) (.cst (.str "9"))) (.cst (.int 2)) (.cst (.int 0)))]
def f6 : Fn := ⟨1, [false], b6⟩
def G6 : List D → Ev.Heap → R D := evFn reprL (tab [G0, G1, G2, G3, G4, G5]) f6
def s6 : Sig := ⟨"_law_kind", 6, [false], ["_law_sign"], []⟩
/-! _law_marks -/
def b7 : List S := [
  .par [(true, 2), (false, 3), (false, 4)] [(.lst []), (.cst (.int 0)), (.cst (.int 0))],
  .for (.name 1) (.peek 0) [.asg (.name 5) (.call 6 [(.var 1)]), .ifs (.and (.op2 .gt (.view 5) (.cst (.int 0))) (.and (.op2 .ne (.view 2) (.lst [])) (.and (.op2 .eq (.op2 .ix (.op2 .ix (.view 2) (.op1 .neg (.cst (.int 1)))) (.cst (.int 3))) (.view 5)) (.op2 .eq (.op2 .sto (.op2 .ix (.view 2) (.op1 .neg (.cst (.int 1)))) (.cst (.int 2))) (.tup [(.var 3), (.op2 .sub (.view 4) (.op1 .len (.op2 .ix (.op2 .ix (.view 2) (.op1 .neg (.cst (.int 1)))) (.cst (.int 2)))))]))))) [.setO 2 (.op1 .neg (.cst (.int 1))) (.op2 .add (.op2 .sto (.op2 .ix (.view 2) (.op1 .neg (.cst (.int 1)))) (.cst (.int 2))) (.tup [(.op2 .add (.op2 .ix (.op2 .ix (.view 2) (.op1 .neg (.cst (.int 1)))) (.cst (.int 2))) (.view 1)), (.var 5)]))] [.ifs (.op2 .ne (.view 1) (.cst (.str " "))) [.app 2 (.tup [(.var 3), (.var 4), (.var 1), (.var 5)])] []], .asg (.tup [(.name 3), (.name 4)]) (.ite (.op2 .eq (.view 1) (.cst (.str "\n"))) (.tup [(.op2 .add (.view 3) (.cst (.int 1))), (.cst (.int 0))]) (.tup [(.var 3), (.op2 .add (.view 4) (.cst (.int 1)))]))],
  .ret (.lc (.op2 .sto (.view 6) (.cst (.int 3))) (.name 6) (.view 2) [])]
def f7 : Fn := ⟨7, [false], b7⟩
def G7 : List D → Ev.Heap → R D := evFn reprL (tab [G0, G1, G2, G3, G4, G5, G6]) f7
def s7 : Sig := ⟨"_law_marks", 7, [false], ["_law_text"], []⟩
/-! _law_piece -/
def b8 : List S := [
  .asg (.name 1) (.call 4 [(.var 0), (.cst (.int 9))]),
  .ifs (.op2 .lt (.view 1) (.cst (.int 2))) [.ret (.op2 .join (.cst (.str "")) (.lc (.op2 .ix (.cst (.str "abcxyzisof")) (.call 4 [(.var 0), (.cst (.int 10))])) (.name 3) (.op1 .range (.op2 .add (.cst (.int 1)) (.call 4 [(.var 0), (.call 5 [(.var 0), (.lst [(.cst (.int 3)), (.cst (.int 7)), (.cst (.int 30))])])]))) []))] [],
  .ifs (.op2 .lt (.view 1) (.cst (.int 4))) [.ret (.op2 .join (.cst (.str "")) (.lc (.op2 .ix (.cst (.str "0123456789")) (.call 4 [(.var 0), (.cst (.int 10))])) (.name 3) (.op1 .range (.op2 .add (.cst (.int 1)) (.call 4 [(.var 0), (.call 5 [(.var 0), (.lst [(.cst (.int 2)), (.cst (.int 4)), (.cst (.int 6))])])]))) []))] [],
  .ifs (.op2 .eq (.view 1) (.cst (.int 4))) [.ret (.op2 .mul (.cst (.str " ")) (.op2 .add (.cst (.int 1)) (.call 4 [(.var 0), (.cst (.int 3))])))] [],
  .asg (.name 2) (.lst [(.cst (.str "\n")), (.cst (.str ":")), (.cst (.str ",")), (.cst (.str ";")), (.cst (.str "/")), (.cst (.str "!")), (.cst (.str "&")), (.cst (.str "|")), (.cst (.str "(")), (.cst (.str ")")), (.cst (.str "A")), (.cst (.str "Z")), (.cst (.str "-")), (.cst (.str "~")), (.cst (.str "_")), (.cst (.str "@")), (.cst (.str "{")), (.cst (.str "[")), (.cst (.str "?")), (.cst (.str "\n")), (.cst (.str ".")), (.cst (.str "$"))]),
  .ret (.call 5 [(.var 0), (.op2 .add (.view 2) (.lst [(.cst (.str "\\")), (.cst (.str "#")), (.cst (.str "*"))]))])]
def f8 : Fn := ⟨4, [false], b8⟩
def G8 : List D → Ev.Heap → R D := evFn reprL (tab [G0, G1, G2, G3, G4, G5, G6, G7]) f8
def s8 : Sig := ⟨"_law_piece", 8, [false], ["_law_heap_here"], []⟩
/-! law -/
def b9 : List S := [
  .asg (.name 1) (.call 3 [(.view 0)]),
  .for (.name 2) (.op1 .range (.op2 .add (.cst (.int 3)) (.op2 .mul (.cst (.int 3)) (.op1 .int (.op2 .gt (.op1 .len (.view 0)) (.cst (.int 2))))))) [.asg (.name 3) (.op2 .join (.cst (.str "")) (.lc (.call 8 [(.var 1)]) (.name 7) (.op1 .range (.call 5 [(.var 1), (.lst [(.cst (.int 5)), (.cst (.int 20)), (.cst (.int 1)), (.cst (.int 60)), (.cst (.int 0))])])) [])), .asg (.name 3) (.ite (.op2 .eq (.call 4 [(.var 1), (.cst (.int 5))]) (.cst (.int 0))) (.op2 .add (.op2 .add (.op2 .add (.op2 .add (.op2 .mul (.cst (.str "7")) (.cst (.int 390))) (.cst (.str " "))) (.view 3)) (.cst (.str ":"))) (.op2 .mul (.cst (.str "12")) (.cst (.int 190)))) (.var 3)), .asg (.name 4) (.op1 .tuple (.call 7 [(.var 3)])), .asg (.name 5) (.call 2 [(.var 3)]), .ifs (.or (.op2 .ne (.op1 .repr (.view 5)) (.op1 .repr (.view 4))) (.op2 .ne (.callK 2 [0] [(.var 3)]) (.view 5))) [.ret (.cst (.bl false))] [], .asg (.name 6) (.op2 .join (.cst (.str " ")) (.lc (.var 10) (.tup [(.name 8), (.name 9), (.name 10)]) (.view 4) [])), .ifs (.op2 .ne (.lc (.var 10) (.tup [(.name 8), (.name 9), (.name 10)]) (.call 2 [(.var 6)]) []) (.lc (.var 10) (.tup [(.name 8), (.name 9), (.name 10)]) (.view 4) [])) [.ret (.cst (.bl false))] []],
  .ifs (.or (.op2 .ne (.call 2 [(.cst (.str ""))]) (.tup [])) (.or (.op2 .ne (.call 2 [(.cst (.str "  "))]) (.tup [])) (.op2 .ne (.call 2 [(.cst (.str " \n"))]) (.tup [(.tup [(.cst (.int 0)), (.cst (.int 1)), (.cst (.str "\n"))])])))) [.ret (.cst (.bl false))] [],
  .ret (.op2 .eq (.call 2 [(.cst (.str "wet 2of\n12/0 is3"))]) (.tup [(.tup [(.cst (.int 0)), (.cst (.int 0)), (.cst (.str "wet"))]), (.tup [(.cst (.int 0)), (.cst (.int 4)), (.cst (.str "2"))]), (.tup [(.cst (.int 0)), (.cst (.int 5)), (.cst (.str "of"))]), (.tup [(.cst (.int 0)), (.cst (.int 7)), (.cst (.str "\n"))]), (.tup [(.cst (.int 1)), (.cst (.int 0)), (.cst (.str "12"))]), (.tup [(.cst (.int 1)), (.cst (.int 2)), (.cst (.str "/"))]), (.tup [(.cst (.int 1)), (.cst (.int 3)), (.cst (.str "0"))]), (.tup [(.cst (.int 1)), (.cst (.int 5)), (.cst (.str "is"))]), (.tup [(.cst (.int 1)), (.cst (.int 7)), (.cst (.str "3"))])]))]
def f9 : Fn := ⟨11, [true], b9⟩
def G9 : List D → Ev.Heap → R D := evFn reprL (tab [G0, G1, G2, G3, G4, G5, G6, G7, G8]) f9
def s9 : Sig := ⟨"law", 9, [true], ["_law_script"], []⟩
def blts : List Str := ["abs", "int", "len", "range", "repr", "tuple"]
def cons : List (Str × D) := [("LETTERS", (.str "abcdefghijklmnopqrstuvwxyz")), ("DIGITS", (.str "0123456789"))]
def k0 : Ck := ⟨["text", "at", "signs"], defScope (top 3), fun _ => true, [], cons, blts⟩
theorem sc0 : FnScope k0.N s0.ps (defScope (top 3)) := ⟨rfl, rfl, rfl, by decide +kernel, rfl, by decide +kernel, by decide +kernel⟩
theorem ch0 : chkSs k0 f0.body (defBody (top 3)) = true := by decide +kernel
def k1 : Ck := ⟨["text", "at"], defScope (top 4), fun _ => true, [s0], cons, blts⟩
theorem sc1 : FnScope k1.N s1.ps (defScope (top 4)) := ⟨rfl, rfl, rfl, by decide +kernel, rfl, by decide +kernel, by decide +kernel⟩
theorem ch1 : chkSs k1 f1.body (defBody (top 4)) = true := by decide +kernel
def k2 : Ck := ⟨["text", "found", "line", "start", "at", "mark"], defScope (top 5), fun _ => true, [s1], cons, blts⟩
theorem sc2 : FnScope k2.N s2.ps (defScope (top 5)) := ⟨rfl, rfl, rfl, by decide +kernel, rfl, by decide +kernel, by decide +kernel⟩
theorem ch2 : chkSs k2 f2.body (defBody (top 5)) = true := by decide +kernel
def k3 : Ck := ⟨["_law_script", "_law_cell", "_law_cells", "_law_stir"], defScope (top 7), fun _ => true, [], cons, blts⟩
theorem sc3 : FnScope k3.N s3.ps (defScope (top 7)) := ⟨rfl, rfl, rfl, by decide +kernel, rfl, by decide +kernel, by decide +kernel⟩
theorem ch3 : chkSs k3 f3.body (defBody (top 7)) = true := by decide +kernel
def k4 : Ck := ⟨["_law_heap_here", "_law_many", "_law_rest"], defScope (top 8), fun _ => true, [], cons, blts⟩
theorem sc4 : FnScope k4.N s4.ps (defScope (top 8)) := ⟨rfl, rfl, rfl, by decide +kernel, rfl, by decide +kernel, by decide +kernel⟩
theorem ch4 : chkSs k4 f4.body (defBody (top 8)) = true := by decide +kernel
def k5 : Ck := ⟨["_law_heap_here", "_law_some"], defScope (top 9), fun _ => true, [s4], cons, blts⟩
theorem sc5 : FnScope k5.N s5.ps (defScope (top 9)) := ⟨rfl, rfl, rfl, by decide +kernel, rfl, by decide +kernel, by decide +kernel⟩
theorem ch5 : chkSs k5 f5.body (defBody (top 9)) = true := by decide +kernel
def k6 : Ck := ⟨["_law_sign"], defScope (top 10), fun _ => true, [], cons, blts⟩
theorem sc6 : FnScope k6.N s6.ps (defScope (top 10)) := ⟨rfl, rfl, rfl, by decide +kernel, rfl, by decide +kernel, by decide +kernel⟩
theorem ch6 : chkSs k6 f6.body (defBody (top 10)) = true := by decide +kernel
def k7 : Ck := ⟨["_law_text", "_law_sign", "_law_found", "_law_line", "_law_at", "_law_kind_here", "_law_mark"], defScope (top 11), fun _ => true, [s6], cons, blts⟩
theorem sc7 : FnScope k7.N s7.ps (defScope (top 11)) := ⟨rfl, rfl, rfl, by decide +kernel, rfl, by decide +kernel, by decide +kernel⟩
theorem ch7 : chkSs k7 f7.body (defBody (top 11)) = true := by decide +kernel
def k8 : Ck := ⟨["_law_heap_here", "_law_kind_here", "_law_some", "_law_turn"], defScope (top 12), fun _ => true, [s4, s5], cons, blts⟩
theorem sc8 : FnScope k8.N s8.ps (defScope (top 12)) := ⟨rfl, rfl, rfl, by decide +kernel, rfl, by decide +kernel, by decide +kernel⟩
theorem ch8 : chkSs k8 f8.body (defBody (top 12)) = true := by decide +kernel
def k9 : Ck := ⟨["_law_script", "_law_heap_here", "_law_turn", "_law_text", "_law_due", "_law_told", "_law_joined", "_law_again", "_law_line", "_law_at", "_law_mark"], defScope (top 13), fun _ => true, [s2, s3, s4, s5, s7, s8], cons, blts⟩
theorem sc9 : FnScope k9.N s9.ps (defScope (top 13)) := ⟨rfl, rfl, rfl, by decide +kernel, rfl, by decide +kernel, by decide +kernel⟩
theorem ch9 : chkSs k9 f9.body (defBody (top 13)) = true := by decide +kernel
structure Mo (K : PySem.W.Frag) (mg : Str → Option Value) : Prop where
  e0 : ∃ f fd, Fun K "run_end" "run_end" (top 3) f fd ∧ mg "run_end" = some (.ref f) ∧ (∀ (s : Shared) (us : List Value), us.length = s0.ps.length → BindsTo s fd ⟨us, []⟩ (s0.ps.zip us)) ∧ ∀ q ∈ s0.kbl, KB K fd s0.ps q.1 q.2.1 q.2.2
  e1 : ∃ f fd, Fun K "mark_at" "mark_at" (top 4) f fd ∧ mg "mark_at" = some (.ref f) ∧ (∀ (s : Shared) (us : List Value), us.length = s1.ps.length → BindsTo s fd ⟨us, []⟩ (s1.ps.zip us)) ∧ ∀ q ∈ s1.kbl, KB K fd s1.ps q.1 q.2.1 q.2.2
  e2 : ∃ f fd, Fun K "marks_of" "marks_of" (top 5) f fd ∧ mg "marks_of" = some (.ref f) ∧ (∀ (s : Shared) (us : List Value), us.length = s2.ps.length → BindsTo s fd ⟨us, []⟩ (s2.ps.zip us)) ∧ ∀ q ∈ s2.kbl, KB K fd s2.ps q.1 q.2.1 q.2.2
  e3 : ∃ f fd, Fun K "_law_heap" "_law_heap" (top 7) f fd ∧ mg "_law_heap" = some (.ref f) ∧ (∀ (s : Shared) (us : List Value), us.length = s3.ps.length → BindsTo s fd ⟨us, []⟩ (s3.ps.zip us)) ∧ ∀ q ∈ s3.kbl, KB K fd s3.ps q.1 q.2.1 q.2.2
  e4 : ∃ f fd, Fun K "_law_draw" "_law_draw" (top 8) f fd ∧ mg "_law_draw" = some (.ref f) ∧ (∀ (s : Shared) (us : List Value), us.length = s4.ps.length → BindsTo s fd ⟨us, []⟩ (s4.ps.zip us)) ∧ ∀ q ∈ s4.kbl, KB K fd s4.ps q.1 q.2.1 q.2.2
  e5 : ∃ f fd, Fun K "_law_pick" "_law_pick" (top 9) f fd ∧ mg "_law_pick" = some (.ref f) ∧ (∀ (s : Shared) (us : List Value), us.length = s5.ps.length → BindsTo s fd ⟨us, []⟩ (s5.ps.zip us)) ∧ ∀ q ∈ s5.kbl, KB K fd s5.ps q.1 q.2.1 q.2.2
  e6 : ∃ f fd, Fun K "_law_kind" "_law_kind" (top 10) f fd ∧ mg "_law_kind" = some (.ref f) ∧ (∀ (s : Shared) (us : List Value), us.length = s6.ps.length → BindsTo s fd ⟨us, []⟩ (s6.ps.zip us)) ∧ ∀ q ∈ s6.kbl, KB K fd s6.ps q.1 q.2.1 q.2.2
  e7 : ∃ f fd, Fun K "_law_marks" "_law_marks" (top 11) f fd ∧ mg "_law_marks" = some (.ref f) ∧ (∀ (s : Shared) (us : List Value), us.length = s7.ps.length → BindsTo s fd ⟨us, []⟩ (s7.ps.zip us)) ∧ ∀ q ∈ s7.kbl, KB K fd s7.ps q.1 q.2.1 q.2.2
  e8 : ∃ f fd, Fun K "_law_piece" "_law_piece" (top 12) f fd ∧ mg "_law_piece" = some (.ref f) ∧ (∀ (s : Shared) (us : List Value), us.length = s8.ps.length → BindsTo s fd ⟨us, []⟩ (s8.ps.zip us)) ∧ ∀ q ∈ s8.kbl, KB K fd s8.ps q.1 q.2.1 q.2.2
  e9 : ∃ f fd, Fun K "law" "law" (top 13) f fd ∧ mg "law" = some (.ref f) ∧ (∀ (s : Shared) (us : List Value), us.length = s9.ps.length → BindsTo s fd ⟨us, []⟩ (s9.ps.zip us)) ∧ ∀ q ∈ s9.kbl, KB K fd s9.ps q.1 q.2.1 q.2.2
  bl : ∀ x ∈ blts, mg x = none
  co : ∀ p ∈ cons, ∃ v u, mg p.1 = some u ∧ RelV v u ∧ ∀ Fb m H, Rep K Fb m H v p.2
section
variable {K : PySem.W.Frag} {mg : Str → Option Value}
theorem ok0 (M : Mo K mg) : ∃ f fd, (∀ (P : Program) (w : World) (base : PySem.Heap), FnG P w K mg base CX0 1 f fd s0.ps (spF K G0 s0.modes)) ∧ mg "run_end" = some (.ref f) ∧ PySem.W.keepIn K (.ref f) = true ∧ (∀ (s : Shared) (us : List Value), us.length = s0.ps.length → BindsTo s fd ⟨us, []⟩ (s0.ps.zip us)) ∧ ∀ q ∈ s0.kbl, KB K fd s0.ps q.1 q.2.1 q.2.2 := by
  obtain ⟨f, fd, F, a, b, kb⟩ := M.e0
  refine ⟨f, fd, fun P w base => def_ok (ck := k0) (fn := f0) F sc0 rfl rfl rfl rfl (by decide) M.bl ?_ M.co ch0, a, F.kp, b, kb⟩
  exact fun s hs => by cases hs
theorem ok1 (M : Mo K mg) : ∃ f fd, (∀ (P : Program) (w : World) (base : PySem.Heap), FnG P w K mg base CX0 2 f fd s1.ps (spF K G1 s1.modes)) ∧ mg "mark_at" = some (.ref f) ∧ PySem.W.keepIn K (.ref f) = true ∧ (∀ (s : Shared) (us : List Value), us.length = s1.ps.length → BindsTo s fd ⟨us, []⟩ (s1.ps.zip us)) ∧ ∀ q ∈ s1.kbl, KB K fd s1.ps q.1 q.2.1 q.2.2 := by
  obtain ⟨f, fd, F, a, b, kb⟩ := M.e1
  refine ⟨f, fd, fun P w base => def_ok (ck := k1) (fn := f1) F sc1 rfl rfl rfl rfl (by decide) M.bl ?_ M.co ch1, a, F.kp, b, kb⟩
  refine List.forall_mem_cons.mpr ⟨let ⟨f, fd, F, a, kp, b, kb⟩ := ok0 M; ⟨1, f, fd, F P w base, by decide, a, kp, binds_of b, kb⟩, ?_⟩
  exact fun s hs => by cases hs
theorem ok2 (M : Mo K mg) : ∃ f fd, (∀ (P : Program) (w : World) (base : PySem.Heap), FnG P w K mg base CX0 3 f fd s2.ps (spF K G2 s2.modes)) ∧ mg "marks_of" = some (.ref f) ∧ PySem.W.keepIn K (.ref f) = true ∧ (∀ (s : Shared) (us : List Value), us.length = s2.ps.length → BindsTo s fd ⟨us, []⟩ (s2.ps.zip us)) ∧ ∀ q ∈ s2.kbl, KB K fd s2.ps q.1 q.2.1 q.2.2 := by
  obtain ⟨f, fd, F, a, b, kb⟩ := M.e2
  refine ⟨f, fd, fun P w base => def_ok (ck := k2) (fn := f2) F sc2 rfl rfl rfl rfl (by decide) M.bl ?_ M.co ch2, a, F.kp, b, kb⟩
  refine List.forall_mem_cons.mpr ⟨let ⟨f, fd, F, a, kp, b, kb⟩ := ok1 M; ⟨2, f, fd, F P w base, by decide, a, kp, binds_of b, kb⟩, ?_⟩
  exact fun s hs => by cases hs
theorem ok3 (M : Mo K mg) : ∃ f fd, (∀ (P : Program) (w : World) (base : PySem.Heap), FnG P w K mg base CX0 1 f fd s3.ps (spF K G3 s3.modes)) ∧ mg "_law_heap" = some (.ref f) ∧ PySem.W.keepIn K (.ref f) = true ∧ (∀ (s : Shared) (us : List Value), us.length = s3.ps.length → BindsTo s fd ⟨us, []⟩ (s3.ps.zip us)) ∧ ∀ q ∈ s3.kbl, KB K fd s3.ps q.1 q.2.1 q.2.2 := by
  obtain ⟨f, fd, F, a, b, kb⟩ := M.e3
  refine ⟨f, fd, fun P w base => def_ok (ck := k3) (fn := f3) F sc3 rfl rfl rfl rfl (by decide) M.bl ?_ M.co ch3, a, F.kp, b, kb⟩
  exact fun s hs => by cases hs
theorem ok4 (M : Mo K mg) : ∃ f fd, (∀ (P : Program) (w : World) (base : PySem.Heap), FnG P w K mg base CX0 1 f fd s4.ps (spF K G4 s4.modes)) ∧ mg "_law_draw" = some (.ref f) ∧ PySem.W.keepIn K (.ref f) = true ∧ (∀ (s : Shared) (us : List Value), us.length = s4.ps.length → BindsTo s fd ⟨us, []⟩ (s4.ps.zip us)) ∧ ∀ q ∈ s4.kbl, KB K fd s4.ps q.1 q.2.1 q.2.2 := by
  obtain ⟨f, fd, F, a, b, kb⟩ := M.e4
  refine ⟨f, fd, fun P w base => def_ok (ck := k4) (fn := f4) F sc4 rfl rfl rfl rfl (by decide) M.bl ?_ M.co ch4, a, F.kp, b, kb⟩
  exact fun s hs => by cases hs
theorem ok5 (M : Mo K mg) : ∃ f fd, (∀ (P : Program) (w : World) (base : PySem.Heap), FnG P w K mg base CX0 2 f fd s5.ps (spF K G5 s5.modes)) ∧ mg "_law_pick" = some (.ref f) ∧ PySem.W.keepIn K (.ref f) = true ∧ (∀ (s : Shared) (us : List Value), us.length = s5.ps.length → BindsTo s fd ⟨us, []⟩ (s5.ps.zip us)) ∧ ∀ q ∈ s5.kbl, KB K fd s5.ps q.1 q.2.1 q.2.2 := by
  obtain ⟨f, fd, F, a, b, kb⟩ := M.e5
  refine ⟨f, fd, fun P w base => def_ok (ck := k5) (fn := f5) F sc5 rfl rfl rfl rfl (by decide) M.bl ?_ M.co ch5, a, F.kp, b, kb⟩
  refine List.forall_mem_cons.mpr ⟨let ⟨f, fd, F, a, kp, b, kb⟩ := ok4 M; ⟨1, f, fd, F P w base, by decide, a, kp, binds_of b, kb⟩, ?_⟩
  exact fun s hs => by cases hs
theorem ok6 (M : Mo K mg) : ∃ f fd, (∀ (P : Program) (w : World) (base : PySem.Heap), FnG P w K mg base CX0 1 f fd s6.ps (spF K G6 s6.modes)) ∧ mg "_law_kind" = some (.ref f) ∧ PySem.W.keepIn K (.ref f) = true ∧ (∀ (s : Shared) (us : List Value), us.length = s6.ps.length → BindsTo s fd ⟨us, []⟩ (s6.ps.zip us)) ∧ ∀ q ∈ s6.kbl, KB K fd s6.ps q.1 q.2.1 q.2.2 := by
  obtain ⟨f, fd, F, a, b, kb⟩ := M.e6
  refine ⟨f, fd, fun P w base => def_ok (ck := k6) (fn := f6) F sc6 rfl rfl rfl rfl (by decide) M.bl ?_ M.co ch6, a, F.kp, b, kb⟩
  exact fun s hs => by cases hs
theorem ok7 (M : Mo K mg) : ∃ f fd, (∀ (P : Program) (w : World) (base : PySem.Heap), FnG P w K mg base CX0 2 f fd s7.ps (spF K G7 s7.modes)) ∧ mg "_law_marks" = some (.ref f) ∧ PySem.W.keepIn K (.ref f) = true ∧ (∀ (s : Shared) (us : List Value), us.length = s7.ps.length → BindsTo s fd ⟨us, []⟩ (s7.ps.zip us)) ∧ ∀ q ∈ s7.kbl, KB K fd s7.ps q.1 q.2.1 q.2.2 := by
  obtain ⟨f, fd, F, a, b, kb⟩ := M.e7
  refine ⟨f, fd, fun P w base => def_ok (ck := k7) (fn := f7) F sc7 rfl rfl rfl rfl (by decide) M.bl ?_ M.co ch7, a, F.kp, b, kb⟩
  refine List.forall_mem_cons.mpr ⟨let ⟨f, fd, F, a, kp, b, kb⟩ := ok6 M; ⟨1, f, fd, F P w base, by decide, a, kp, binds_of b, kb⟩, ?_⟩
  exact fun s hs => by cases hs
theorem ok8 (M : Mo K mg) : ∃ f fd, (∀ (P : Program) (w : World) (base : PySem.Heap), FnG P w K mg base CX0 3 f fd s8.ps (spF K G8 s8.modes)) ∧ mg "_law_piece" = some (.ref f) ∧ PySem.W.keepIn K (.ref f) = true ∧ (∀ (s : Shared) (us : List Value), us.length = s8.ps.length → BindsTo s fd ⟨us, []⟩ (s8.ps.zip us)) ∧ ∀ q ∈ s8.kbl, KB K fd s8.ps q.1 q.2.1 q.2.2 := by
  obtain ⟨f, fd, F, a, b, kb⟩ := M.e8
  refine ⟨f, fd, fun P w base => def_ok (ck := k8) (fn := f8) F sc8 rfl rfl rfl rfl (by decide) M.bl ?_ M.co ch8, a, F.kp, b, kb⟩
  refine List.forall_mem_cons.mpr ⟨let ⟨f, fd, F, a, kp, b, kb⟩ := ok4 M; ⟨1, f, fd, F P w base, by decide, a, kp, binds_of b, kb⟩, ?_⟩
  refine List.forall_mem_cons.mpr ⟨let ⟨f, fd, F, a, kp, b, kb⟩ := ok5 M; ⟨2, f, fd, F P w base, by decide, a, kp, binds_of b, kb⟩, ?_⟩
  exact fun s hs => by cases hs
theorem ok9 (M : Mo K mg) : ∃ f fd, (∀ (P : Program) (w : World) (base : PySem.Heap), FnG P w K mg base CX0 4 f fd s9.ps (spF K G9 s9.modes)) ∧ mg "law" = some (.ref f) ∧ PySem.W.keepIn K (.ref f) = true ∧ (∀ (s : Shared) (us : List Value), us.length = s9.ps.length → BindsTo s fd ⟨us, []⟩ (s9.ps.zip us)) ∧ ∀ q ∈ s9.kbl, KB K fd s9.ps q.1 q.2.1 q.2.2 := by
  obtain ⟨f, fd, F, a, b, kb⟩ := M.e9
  refine ⟨f, fd, fun P w base => def_ok (ck := k9) (fn := f9) F sc9 rfl rfl rfl rfl (by decide) M.bl ?_ M.co ch9, a, F.kp, b, kb⟩
  refine List.forall_mem_cons.mpr ⟨let ⟨f, fd, F, a, kp, b, kb⟩ := ok2 M; ⟨3, f, fd, F P w base, by decide, a, kp, binds_of b, kb⟩, ?_⟩
  refine List.forall_mem_cons.mpr ⟨let ⟨f, fd, F, a, kp, b, kb⟩ := ok3 M; ⟨1, f, fd, F P w base, by decide, a, kp, binds_of b, kb⟩, ?_⟩
  refine List.forall_mem_cons.mpr ⟨let ⟨f, fd, F, a, kp, b, kb⟩ := ok4 M; ⟨1, f, fd, F P w base, by decide, a, kp, binds_of b, kb⟩, ?_⟩
  refine List.forall_mem_cons.mpr ⟨let ⟨f, fd, F, a, kp, b, kb⟩ := ok5 M; ⟨2, f, fd, F P w base, by decide, a, kp, binds_of b, kb⟩, ?_⟩
  refine List.forall_mem_cons.mpr ⟨let ⟨f, fd, F, a, kp, b, kb⟩ := ok7 M; ⟨2, f, fd, F P w base, by decide, a, kp, binds_of b, kb⟩, ?_⟩
  refine List.forall_mem_cons.mpr ⟨let ⟨f, fd, F, a, kp, b, kb⟩ := ok8 M; ⟨3, f, fd, F P w base, by decide, a, kp, binds_of b, kb⟩, ?_⟩
  exact fun s hs => by cases hs
end
theorem mo_mk {K : PySem.W.Frag} {h : PySem.Heap} {mg : Str → Option Value} (X : K.In h) (G : h.Ns mainGlobals mg)
    {f0 f1 f2 f3 f4 f5 f6 f7 f8 f9 : Addr} {od0 an0 od1 an1 od2 an2 od3 an3 od4 an4 od5 an5 od6 an6 od7 an7 od8 an8 od9 an9 : Option Addr} {sl0 sl1 sl2 sl3 sl4 sl5 sl6 sl7 sl8 sl9 : Array (Option Value)} {oc0 kV0 dc0 pm0 cd0 ct0 oc1 kV1 dc1 pm1 cd1 ct1 oc2 kV2 dc2 pm2 cd2 ct2 oc3 kV3 dc3 pm3 cd3 ct3 oc4 kV4 dc4 pm4 cd4 ct4 oc5 kV5 dc5 pm5 cd5 ct5 oc6 kV6 dc6 pm6 cd6 ct6 oc7 kV7 dc7 pm7 cd7 ct7 oc8 kV8 dc8 pm8 cd8 ct8 oc9 kV9 dc9 pm9 cd9 ct9 : Value} {t0 : Tok} {t1 : Tok}
    (a0 : PySem.W.nsIn K mainGlobals "run_end" = some (some (.ref f0))) (l0 : K.lookup f0 = some ⟨oc0, od0, .func (PySem.W.fnOf "run_end" "run_end" (defArgs (top 3)) (defBody (top 3)) (defScope (top 3)) .none kV0 dc0 pm0 an0 cd0 ct0), sl0⟩) (c0 : PySem.W.codeIn K cd0 "run_end" = true) (k0 : PySem.W.keepIn K (.ref f0) = true)
    (a1 : PySem.W.nsIn K mainGlobals "mark_at" = some (some (.ref f1))) (l1 : K.lookup f1 = some ⟨oc1, od1, .func (PySem.W.fnOf "mark_at" "mark_at" (defArgs (top 4)) (defBody (top 4)) (defScope (top 4)) .none kV1 dc1 pm1 an1 cd1 ct1), sl1⟩) (c1 : PySem.W.codeIn K cd1 "mark_at" = true) (k1 : PySem.W.keepIn K (.ref f1) = true)
    (a2 : PySem.W.nsIn K mainGlobals "marks_of" = some (some (.ref f2))) (l2 : K.lookup f2 = some ⟨oc2, od2, .func (PySem.W.fnOf "marks_of" "marks_of" (defArgs (top 5)) (defBody (top 5)) (defScope (top 5)) .none kV2 dc2 pm2 an2 cd2 ct2), sl2⟩) (c2 : PySem.W.codeIn K cd2 "marks_of" = true) (k2 : PySem.W.keepIn K (.ref f2) = true)
    (a3 : PySem.W.nsIn K mainGlobals "_law_heap" = some (some (.ref f3))) (l3 : K.lookup f3 = some ⟨oc3, od3, .func (PySem.W.fnOf "_law_heap" "_law_heap" (defArgs (top 7)) (defBody (top 7)) (defScope (top 7)) .none kV3 dc3 pm3 an3 cd3 ct3), sl3⟩) (c3 : PySem.W.codeIn K cd3 "_law_heap" = true) (k3 : PySem.W.keepIn K (.ref f3) = true)
    (a4 : PySem.W.nsIn K mainGlobals "_law_draw" = some (some (.ref f4))) (l4 : K.lookup f4 = some ⟨oc4, od4, .func (PySem.W.fnOf "_law_draw" "_law_draw" (defArgs (top 8)) (defBody (top 8)) (defScope (top 8)) .none kV4 dc4 pm4 an4 cd4 ct4), sl4⟩) (c4 : PySem.W.codeIn K cd4 "_law_draw" = true) (k4 : PySem.W.keepIn K (.ref f4) = true)
    (a5 : PySem.W.nsIn K mainGlobals "_law_pick" = some (some (.ref f5))) (l5 : K.lookup f5 = some ⟨oc5, od5, .func (PySem.W.fnOf "_law_pick" "_law_pick" (defArgs (top 9)) (defBody (top 9)) (defScope (top 9)) .none kV5 dc5 pm5 an5 cd5 ct5), sl5⟩) (c5 : PySem.W.codeIn K cd5 "_law_pick" = true) (k5 : PySem.W.keepIn K (.ref f5) = true)
    (a6 : PySem.W.nsIn K mainGlobals "_law_kind" = some (some (.ref f6))) (l6 : K.lookup f6 = some ⟨oc6, od6, .func (PySem.W.fnOf "_law_kind" "_law_kind" (defArgs (top 10)) (defBody (top 10)) (defScope (top 10)) .none kV6 dc6 pm6 an6 cd6 ct6), sl6⟩) (c6 : PySem.W.codeIn K cd6 "_law_kind" = true) (k6 : PySem.W.keepIn K (.ref f6) = true)
    (a7 : PySem.W.nsIn K mainGlobals "_law_marks" = some (some (.ref f7))) (l7 : K.lookup f7 = some ⟨oc7, od7, .func (PySem.W.fnOf "_law_marks" "_law_marks" (defArgs (top 11)) (defBody (top 11)) (defScope (top 11)) .none kV7 dc7 pm7 an7 cd7 ct7), sl7⟩) (c7 : PySem.W.codeIn K cd7 "_law_marks" = true) (k7 : PySem.W.keepIn K (.ref f7) = true)
    (a8 : PySem.W.nsIn K mainGlobals "_law_piece" = some (some (.ref f8))) (l8 : K.lookup f8 = some ⟨oc8, od8, .func (PySem.W.fnOf "_law_piece" "_law_piece" (defArgs (top 12)) (defBody (top 12)) (defScope (top 12)) .none kV8 dc8 pm8 an8 cd8 ct8), sl8⟩) (c8 : PySem.W.codeIn K cd8 "_law_piece" = true) (k8 : PySem.W.keepIn K (.ref f8) = true)
    (a9 : PySem.W.nsIn K mainGlobals "law" = some (some (.ref f9))) (l9 : K.lookup f9 = some ⟨oc9, od9, .func (PySem.W.fnOf "law" "law" (defArgs (top 13)) (defBody (top 13)) (defScope (top 13)) .none kV9 dc9 pm9 an9 cd9 ct9), sl9⟩) (c9 : PySem.W.codeIn K cd9 "law" = true) (k9 : PySem.W.keepIn K (.ref f9) = true)
    (z0 : PySem.W.nsIn K mainGlobals "abs" = some none)
    (z1 : PySem.W.nsIn K mainGlobals "int" = some none)
    (z2 : PySem.W.nsIn K mainGlobals "len" = some none)
    (z3 : PySem.W.nsIn K mainGlobals "range" = some none)
    (z4 : PySem.W.nsIn K mainGlobals "repr" = some none)
    (z5 : PySem.W.nsIn K mainGlobals "tuple" = some none)
    (y0 : PySem.W.nsIn K mainGlobals "LETTERS" = some (some (.str "abcdefghijklmnopqrstuvwxyz" t0)))
    (y1 : PySem.W.nsIn K mainGlobals "DIGITS" = some (some (.str "0123456789" t1))) : Mo K mg where
  e0 := ⟨f0, _, fun_mk l0 c0 k0, PySem.W.mg_of X G a0, fun s us hl => match us, hl with | [_, _, _], _ => .of_eq rfl, fun q hq => by cases hq⟩
  e1 := ⟨f1, _, fun_mk l1 c1 k1, PySem.W.mg_of X G a1, fun s us hl => match us, hl with | [_, _], _ => .of_eq rfl, fun q hq => by cases hq⟩
  e2 := ⟨f2, _, fun_mk l2 c2 k2, PySem.W.mg_of X G a2, fun s us hl => match us, hl with | [_], _ => .of_eq rfl, List.forall_mem_cons.mpr ⟨⟨fun s us ws ys _ hn hk hp => match us, hn, ws, hk, hp with | [], _, [w0], _, hp => by cases hp; exact .of_eq rfl⟩, fun q hq => by cases hq⟩⟩
  e3 := ⟨f3, _, fun_mk l3 c3 k3, PySem.W.mg_of X G a3, fun s us hl => match us, hl with | [_], _ => .of_eq rfl, fun q hq => by cases hq⟩
  e4 := ⟨f4, _, fun_mk l4 c4 k4, PySem.W.mg_of X G a4, fun s us hl => match us, hl with | [_, _], _ => .of_eq rfl, fun q hq => by cases hq⟩
  e5 := ⟨f5, _, fun_mk l5 c5 k5, PySem.W.mg_of X G a5, fun s us hl => match us, hl with | [_, _], _ => .of_eq rfl, fun q hq => by cases hq⟩
  e6 := ⟨f6, _, fun_mk l6 c6 k6, PySem.W.mg_of X G a6, fun s us hl => match us, hl with | [_], _ => .of_eq rfl, fun q hq => by cases hq⟩
  e7 := ⟨f7, _, fun_mk l7 c7 k7, PySem.W.mg_of X G a7, fun s us hl => match us, hl with | [_], _ => .of_eq rfl, fun q hq => by cases hq⟩
  e8 := ⟨f8, _, fun_mk l8 c8 k8, PySem.W.mg_of X G a8, fun s us hl => match us, hl with | [_], _ => .of_eq rfl, fun q hq => by cases hq⟩
  e9 := ⟨f9, _, fun_mk l9 c9 k9, PySem.W.mg_of X G a9, fun s us hl => match us, hl with | [_], _ => .of_eq rfl, fun q hq => by cases hq⟩
  bl := List.forall_mem_cons.mpr ⟨PySem.W.mg_none_of X G z0, List.forall_mem_cons.mpr ⟨PySem.W.mg_none_of X G z1, List.forall_mem_cons.mpr ⟨PySem.W.mg_none_of X G z2, List.forall_mem_cons.mpr ⟨PySem.W.mg_none_of X G z3, List.forall_mem_cons.mpr ⟨PySem.W.mg_none_of X G z4, List.forall_mem_cons.mpr ⟨PySem.W.mg_none_of X G z5, fun x hx => by cases hx⟩⟩⟩⟩⟩⟩
  co := List.forall_mem_cons.mpr ⟨⟨.str _, _, PySem.W.mg_of X G y0, ⟨_, rfl⟩, fun _ _ _ => .str _⟩, List.forall_mem_cons.mpr ⟨⟨.str _, _, PySem.W.mg_of X G y1, ⟨_, rfl⟩, fun _ _ _ => .str _⟩, fun x hx => by cases hx⟩⟩
end K06
end

section
set_option Elab.async false
set_option linter.all false
set_option maxRecDepth 100000
namespace Ev
open PySem
/-! ### running the evaluator by hand -/
section
variable {Γ : Nat → List D → Heap → R D}
abbrev vE (Γ : Nat → List D → Heap → R D) := evE reprL Γ
theorem run_cons {s : S} {ss : List S} {env env' : Env} {h h' : Heap} {r : R Flow} (e : evS reprL Γ s env h = some (.ok (.nx env') h')) (k : evSs reprL Γ ss env' h' = r) : evSs reprL Γ (s :: ss) env h = r := by
  show R.bind (evS reprL Γ s env h) _ = r
  rw [e]
  exact k
theorem run_ret {s : S} {ss : List S} {env : Env} {h h' : Heap} {d : D} (e : evS reprL Γ s env h = some (.ok (.ret d) h')) : evSs reprL Γ (s :: ss) env h = some (.ok (.ret d) h') := by
  show R.bind (evS reprL Γ s env h) _ = _
  rw [e]
  rfl
theorem run_nil {env : Env} {h : Heap} : evSs reprL Γ [] env h = some (.ok (.nx env) h) := rfl
theorem run_for {t : Tg} {it : E} {body : List S} {env : Env} {h h' : Heap} {s : D} {xs : List D} {r : R Flow} (e : evE reprL Γ it env h = some (.ok s h')) (w : walk? s = some xs) (k : forLoop (forTurn Γ t body) xs env h' = r) : evS reprL Γ (.for t it body) env h = r := by
  show R.bind (evE reprL Γ it env h) _ = r
  rw [e]
  show (match walk? s with | some xs => _ | none => _) = r
  rw [w]
  exact k
theorem run_ifT {t : E} {a b : List S} {env : Env} {h h' : Heap} {r : R Flow} (e : evE reprL Γ t env h = some (.ok (.bl true) h')) (k : evSs reprL Γ a env h' = r) : evS reprL Γ (.ifs t a b) env h = r := by
  show R.bind (evE reprL Γ t env h) _ = r
  rw [e]
  exact k
theorem run_ifF {t : E} {a b : List S} {env : Env} {h h' : Heap} {r : R Flow} (e : evE reprL Γ t env h = some (.ok (.bl false) h')) (k : evSs reprL Γ b env h' = r) : evS reprL Γ (.ifs t a b) env h = r := by
  show R.bind (evE reprL Γ t env h) _ = r
  rw [e]
  exact k
theorem loop_nil {f : D → Env → Heap → R Flow} {env : Env} {h : Heap} : forLoop f [] env h = some (.ok (.nx env) h) := rfl
theorem loop_cons {f : D → Env → Heap → R Flow} {x : D} {xs : List D} {env env' : Env} {h h' : Heap} {r : R Flow} (e : f x env h = some (.ok (.nx env') h')) (k : forLoop f xs env' h' = r) : forLoop f (x :: xs) env h = r := by
  show R.bind (f x env h) _ = r
  rw [e]
  exact k
theorem loop_ret {f : D → Env → Heap → R Flow} {x d : D} {xs : List D} {env : Env} {h h' : Heap} (e : f x env h = some (.ok (.ret d) h')) : forLoop f (x :: xs) env h = some (.ok (.ret d) h') := by
  show R.bind (f x env h) _ = _
  rw [e]
  rfl
theorem run_while {c : E} {body : List S} {env : Env} {h : Heap} : evS reprL Γ (.whil c body) env h = loopW (whileTurn Γ c body) env h := rfl
theorem loopW_eq (f : Env → Heap → R (Sum Env Flow)) (env : Env) (h : Heap) : loopW f env h = match f env h with
  | none => none
  | some (.err c fs h) => some (.err c fs h)
  | some (.ok (.inr fl) h) => some (.ok fl h)
  | some (.ok (.inl env) h) => loopW f env h := by
  refine (loopW.eq_def f env h).trans ?_
  cases f env h with
  | none => rfl
  | some o => cases o with
    | err _ _ _ => rfl
    | ok s h => cases s <;> rfl
theorem while_F {c : E} {body : List S} {env : Env} {h h' : Heap} (e : evE reprL Γ c env h = some (.ok (.bl false) h')) : loopW (whileTurn Γ c body) env h = some (.ok (.nx env) h') := by
  rw [loopW_eq]
  unfold whileTurn
  rw [e]
  rfl
theorem while_T {c : E} {body : List S} {env env' : Env} {h h' h'' : Heap} {r : R Flow} (e : evE reprL Γ c env h = some (.ok (.bl true) h')) (b : evSs reprL Γ body env h' = some (.ok (.nx env') h'')) (k : loopW (whileTurn Γ c body) env' h'' = r) : loopW (whileTurn Γ c body) env h = r := by
  rw [loopW_eq]
  have : whileTurn Γ c body env h = some (.ok (.inl env') h'') := by
    unfold whileTurn
    rw [e]
    show R.bind (evSs reprL Γ body env h') _ = _
    rw [b]
    rfl
  rw [this]
  exact k
theorem fn_ret {f : Fn} {ds : List D} {h h' : Heap} {d : D} (hl : ds.length = f.modes.length) (e : evSs reprL Γ f.body (startEnv f ds) h = some (.ok (.ret d) h')) : evFn reprL Γ f ds h = some (.ok d h') := by
  unfold evFn
  rw [if_pos hl, e]
  rfl
theorem comp_nil {α : Type} {f : D → Heap → R (List α)} {h : Heap} : compLoop f [] h = some (.ok [] h) := rfl
theorem comp_cons {α : Type} {f : D → Heap → R (List α)} {x : D} {xs : List D} {h h' h'' : Heap} {o ys : List α} (e : f x h = some (.ok o h')) (k : compLoop f xs h' = some (.ok ys h'')) : compLoop f (x :: xs) h = some (.ok (o ++ ys) h'') := by
  show R.bind (f x h) _ = _
  rw [e]
  show R.bind (compLoop f xs h') _ = _
  rw [k]
  rfl
/-- each turn gives its own items, the heap as it was -/
theorem comp_pure {α : Type} {f : D → Heap → R (List α)} {h : Heap} {g : D → List α} : ∀ {xs : List D}, (∀ x ∈ xs, f x h = some (.ok (g x) h)) → compLoop f xs h = some (.ok (xs.flatMap g) h)
  | [], _ => rfl
  | x :: xs, H => comp_cons (H x List.mem_cons_self) (comp_pure fun y hy => H y (List.mem_cons_of_mem _ hy))
theorem run_lc {elt it : E} {tg : Tg} {cnd : List E} {env : Env} {h h' h'' : Heap} {s : D} {xs ys : List D} (e : evE reprL Γ it env h = some (.ok s h')) (w : walk? s = some xs) (k : compLoop (lcTurn Γ elt cnd tg.slots tg env) xs h' = some (.ok ys h'')) : evE reprL Γ (.lc elt tg it cnd) env h = some (.ok (.lst ys) h'') := by
  show R.bind (evE reprL Γ it env h) _ = _
  rw [e]
  show (match walk? s with | some xs => _ | none => _) = _
  rw [w]
  show R.bind (compLoop (lcTurn Γ elt cnd tg.slots tg env) xs h') _ = _
  rw [k]
  rfl
theorem run_lc2 {elt it it2 : E} {tg tg2 : Tg} {cnd cnd2 : List E} {env : Env} {h h' h'' : Heap} {s : D} {xs ys : List D} (e : evE reprL Γ it env h = some (.ok s h')) (w : walk? s = some xs) (k : compLoop (lc2Turn Γ elt cnd (tg.slots ++ tg2.slots) tg tg2 it2 cnd2 env) xs h' = some (.ok ys h'')) (hl : ys.length ≤ LIM) :
    evE reprL Γ (.lc2 elt tg it cnd tg2 it2 cnd2) env h = some (.ok (.lst ys) h'') := by
  show R.bind (evE reprL Γ it env h) _ = _
  rw [e]
  show (match walk? s with | some xs => _ | none => _) = _
  rw [w]
  show R.bind (compLoop (lc2Turn Γ elt cnd (tg.slots ++ tg2.slots) tg tg2 it2 cnd2 env) xs h') _ = _
  rw [k]
  show (if ys.length ≤ LIM then _ else _) = _
  rw [if_pos hl]
end
theorem log_small {a : Int} (h : a.natAbs < 2 ^ 64) : a.natAbs.log2 < 64 := by
  by_cases z : a.natAbs = 0
  · rw [z]
    decide
  · exact (Nat.log2_lt z).mpr h
theorem mulOk_left {a b : Int} (ha : a.natAbs < 2 ^ 64) : mulOk a b = true := by
  unfold mulOk
  rw [decide_eq_true ha]
  rfl
theorem mulOk_right {a b : Int} (hb : b.natAbs < 2 ^ 64) : mulOk a b = true := by
  unfold mulOk
  rw [decide_eq_true hb, Bool.or_true]
  rfl
theorem mulOk_small {a b : Int} (ha : a.natAbs < 2 ^ 64) (hb : b.natAbs < 2 ^ 64) : mulOk a b = true := mulOk_left ha
section
variable {Γ : Nat → List D → Heap → R D} {env : Env} {h h1 h2 h3 : Heap} {a b c : E} {x y z x' y' d : D}
theorem x1 {o : Op1} (ea : evE reprL Γ a env h = some (.ok x h1)) (dx : deref h1 x = some x') (ho : o1 reprL o x' = some d) : evE reprL Γ (.op1 o a) env h = some (.ok d h1) := by
  show R.bind (evE reprL Γ a env h) _ = _
  rw [ea]
  show lift h1 ((deref h1 x).bind (o1 reprL o)) = _
  rw [dx]
  show lift h1 (o1 reprL o x') = _
  rw [ho]
  rfl
theorem x2 {o : Op2} (ea : evE reprL Γ a env h = some (.ok x h1)) (eb : evE reprL Γ b env h1 = some (.ok y h2)) (dx : deref h2 x = some x') (dy : deref h2 y = some y') (ho : o2 o x' y' = some d) : evE reprL Γ (.op2 o a b) env h = some (.ok d h2) := by
  show R.bind (evE reprL Γ a env h) _ = _
  rw [ea]
  show R.bind (evE reprL Γ b env h1) _ = _
  rw [eb]
  show lift h2 ((deref h2 x).bind fun x => (deref h2 y).bind fun y => o2 o x y) = _
  rw [dx, dy]
  show lift h2 (o2 o x' y') = _
  rw [ho]
  rfl
theorem x3 {o : Op3} (ea : evE reprL Γ a env h = some (.ok x h1)) (eb : evE reprL Γ b env h1 = some (.ok y h2)) (ec : evE reprL Γ c env h2 = some (.ok z h3)) (dx : deref h3 x = some x') (ho : o3 o x' y z = some d) : evE reprL Γ (.op3 o a b c) env h = some (.ok d h3) := by
  show R.bind (evE reprL Γ a env h) _ = _
  rw [ea]
  show R.bind (evE reprL Γ b env h1) _ = _
  rw [eb]
  show R.bind (evE reprL Γ c env h2) _ = _
  rw [ec]
  show lift h3 ((deref h3 x).bind fun x => o3 o x y z) = _
  rw [dx]
  show lift h3 (o3 o x' y z) = _
  rw [ho]
  rfl
theorem xcall {n : Nat} {es : List E} {ds : List D} (e : evEs reprL Γ es env h = some (.ok ds h1)) (k : Γ n ds h1 = some (.ok d h2)) : evE reprL Γ (.call n es) env h = some (.ok d h2) := by
  show R.bind (evEs reprL Γ es env h) _ = _
  rw [e]
  exact k
theorem xcallK {n : Nat} {perm : List Nat} {es : List E} {ds ds' : List D} (e : evEs reprL Γ es env h = some (.ok ds h1)) (p : perm.mapM (ds[·]?) = some ds') (k : Γ n ds' h1 = some (.ok d h2)) : evE reprL Γ (.callK n perm es) env h = some (.ok d h2) := by
  show R.bind (evEs reprL Γ es env h) _ = _
  rw [e]
  show (match perm.mapM (ds[·]?) with | some ds => Γ n ds h1 | none => none) = _
  rw [p]
  exact k
theorem xs_nil : evEs reprL Γ [] env h = some (.ok [] h) := rfl
theorem xs_cons {es : List E} {ds : List D} (e : evE reprL Γ a env h = some (.ok x h1)) (k : evEs reprL Γ es env h1 = some (.ok ds h2)) : evEs reprL Γ (a :: es) env h = some (.ok (x :: ds) h2) := by
  show R.bind (evE reprL Γ a env h) _ = _
  rw [e]
  show R.bind (evEs reprL Γ es env h1) _ = _
  rw [k]
  rfl
theorem xtup {es : List E} {ds : List D} (k : evEs reprL Γ es env h = some (.ok ds h1)) : evE reprL Γ (.tup es) env h = some (.ok (.tup ds) h1) := by
  show R.bind (evEs reprL Γ es env h) _ = _
  rw [k]
  rfl
theorem xlst {es : List E} {ds : List D} (k : evEs reprL Γ es env h = some (.ok ds h1)) : evE reprL Γ (.lst es) env h = some (.ok (.lst ds) h1) := by
  show R.bind (evEs reprL Γ es env h) _ = _
  rw [k]
  rfl
theorem xorF {r : R D} (ea : evE reprL Γ a env h = some (.ok (.bl false) h1)) (k : evE reprL Γ b env h1 = r) : evE reprL Γ (.or a b) env h = r := by
  show R.bind (evE reprL Γ a env h) _ = _
  rw [ea]
  exact k
theorem xandT {r : R D} (ea : evE reprL Γ a env h = some (.ok (.bl true) h1)) (k : evE reprL Γ b env h1 = r) : evE reprL Γ (.and a b) env h = r := by
  show R.bind (evE reprL Γ a env h) _ = _
  rw [ea]
  exact k
theorem run_asg {tg : Tg} {env' : Env} (e : evE reprL Γ a env h = some (.ok d h1)) (s : setTg tg d env = some env') : evS reprL Γ (.asg tg a) env h = some (.ok (.nx env') h1) := by
  show R.bind (evE reprL Γ a env h) _ = _
  rw [e]
  show (match setTg tg d env with | some env => _ | none => none) = _
  rw [s]
theorem run_par {ts : List (Bool × Nat)} {es : List E} {ds : List D} {env' : Env} (e : evEs reprL Γ es env h = some (.ok ds h1)) (s : setPar ts ds env = some env') : evS reprL Γ (.par ts es) env h = some (.ok (.nx env') h1) := by
  show R.bind (evEs reprL Γ es env h) _ = _
  rw [e]
  show (match setPar ts ds env with | some env => _ | none => none) = _
  rw [s]
theorem run_retE (e : evE reprL Γ a env h = some (.ok d h1)) : evS reprL Γ (.ret a) env h = some (.ok (.ret d) h1) := by
  show R.bind (evE reprL Γ a env h) _ = _
  rw [e]
  rfl
end
end Ev
namespace Ev
open PySem
theorem plains_ints : ∀ cs : List Int, D.plains (cs.map D.int) = true
  | [] => rfl
  | _ :: cs => plains_ints cs
theorem depths_ints : ∀ cs : List Int, D.depths (cs.map D.int) = 0
  | [] => rfl
  | c :: cs => by
    show max (D.depth (.int c)) (D.depths (cs.map D.int)) = 0
    rw [depths_ints cs]
    rfl
theorem atI_last {xs : List D} {x : D} : Ev.atI (xs ++ [x]) (-1) = some x := by
  unfold Ev.atI Ev.ixN
  have hl : (xs ++ [x]).length = xs.length + 1 := by simp
  rw [hl, if_neg (by omega), if_pos (by omega)]
  have : ((-1 : Int) + ((xs.length + 1 : Nat) : Int)).toNat = xs.length := by omega
  show (xs ++ [x])[((-1 : Int) + ((xs.length + 1 : Nat) : Int)).toNat]? = some x
  rw [this, List.getElem?_append_right (Nat.le_refl _), Nat.sub_self]
  rfl
theorem ne_nil (cs : List Int) : o2 .ne (.lst (cs.map D.int)) (.lst []) = some (.bl (!cs.isEmpty)) := by
  have h : cmpOk (.lst (cs.map D.int)) (.lst []) = true := by
    unfold cmpOk
    show (D.plains (cs.map D.int) && true && decide (min (D.depths (cs.map D.int) + 1) (0 + 1) ≤ 64)) = true
    rw [plains_ints, depths_ints]
    rfl
  show (if cmpOk (.lst (cs.map D.int)) (.lst []) = true then some (D.bl (!D.eqv (.lst (cs.map D.int)) (.lst []))) else none) = _
  rw [if_pos h]
  cases cs <;> rfl
theorem split_last {α : Type} : ∀ {xs : List α}, xs ≠ [] → ∃ ys y, xs = ys ++ [y]
  | xs, h => ⟨xs.dropLast, xs.getLast h, (List.dropLast_concat_getLast h).symm⟩
end Ev
namespace Ev
open PySem
section
variable {Γ : Nat → List D → Heap → R D} {env env1 env2 : Env} {h h1 h2 : Heap} {elt c : E} {tg : Tg} {vs : List Nat} {x y : D}
theorem turn_elt (k : clear env vs = some env1) (s : setTg tg x env1 = some env2) (e : evE reprL Γ elt env2 h = some (.ok y h1)) : lcTurn Γ elt [] vs tg env x h = some (.ok [y] h1) := by
  unfold lcTurn
  rw [k]
  show (match setTg tg x env1 with | none => none | some env => _) = _
  rw [s]
  show R.bind (evE reprL Γ elt env2 h) _ = _
  rw [e]
  rfl
theorem turn_T (k : clear env vs = some env1) (s : setTg tg x env1 = some env2) (t : evE reprL Γ c env2 h = some (.ok (.bl true) h1)) (e : evE reprL Γ elt env2 h1 = some (.ok y h2)) : lcTurn Γ elt [c] vs tg env x h = some (.ok [y] h2) := by
  unfold lcTurn
  rw [k]
  show (match setTg tg x env1 with | none => none | some env => _) = _
  rw [s]
  show R.bind (R.bind (evE reprL Γ c env2 h) _) _ = _
  rw [t]
  show R.bind (evE reprL Γ elt env2 h1) _ = _
  rw [e]
  rfl
theorem turn_F (k : clear env vs = some env1) (s : setTg tg x env1 = some env2) (t : evE reprL Γ c env2 h = some (.ok (.bl false) h1)) : lcTurn Γ elt [c] vs tg env x h = some (.ok [] h1) := by
  unfold lcTurn
  rw [k]
  show (match setTg tg x env1 with | none => none | some env => _) = _
  rw [s]
  show R.bind (R.bind (evE reprL Γ c env2 h) _) _ = _
  rw [t]
  rfl
/-- a comprehension over ints that leaves the heap -/
theorem comp_ints {f : D → Heap → R (List D)} {h : Heap} {g : Int → List Int} : ∀ {cs : List Int}, (∀ c ∈ cs, f (.int c) h = some (.ok ((g c).map D.int) h)) → compLoop f (cs.map D.int) h = some (.ok ((cs.flatMap g).map D.int) h)
  | [], _ => rfl
  | c :: cs, H => by
    have := comp_cons (H c List.mem_cons_self) (comp_ints fun y hy => H y (List.mem_cons_of_mem _ hy))
    rw [List.flatMap_cons, List.map_append]
    exact this
end
end Ev
namespace Ev
theorem mul_of {a b : Int} (m : mulOk a b = true) : o2 .mul (.int a) (.int b) = some (.int (a * b)) := if_pos m
theorem flat1_len {α β : Type} {g : α → β} : ∀ cs : List α, (cs.flatMap fun c => [g c]).length = cs.length
  | [] => rfl
  | c :: cs => by
    rw [List.flatMap_cons, List.length_append, flat1_len cs, List.length_cons, List.length_cons, List.length_nil]
    omega
end Ev
end

section
set_option Elab.async false
set_option linter.all false
set_option maxRecDepth 100000
namespace Ev
open PySem
section
variable {Γ : Nat → List D → Heap → R D} {env env1 env2 : Env} {h h1 h2 : Heap} {elt it2 : E} {cnd2 : List E} {tg tg2 : Tg} {vs : List Nat} {x s : D} {xs ys : List D}
theorem turn_in (k : clear env vs = some env1) (st : setTg tg x env1 = some env2) (e : evE reprL Γ it2 env2 h = some (.ok s h1)) (w : walk? s = some xs) (c : compLoop (lcTurn Γ elt cnd2 tg2.slots tg2 env2) xs h1 = some (.ok ys h2)) : lc2Turn Γ elt [] vs tg tg2 it2 cnd2 env x h = some (.ok ys h2) := by
  unfold lc2Turn
  rw [k]
  show (match setTg tg x env1 with | none => none | some env => _) = _
  rw [st]
  show R.bind (evE reprL Γ it2 env2 h) _ = _
  rw [e]
  show (match walk? s with | some xs => _ | none => none) = _
  rw [w]
  exact c
theorem comp_map {α : Type} {f : D → Heap → R (List D)} {g : α → D} {k : α → List D} : ∀ {as : List α}, (∀ a ∈ as, f (g a) h = some (.ok (k a) h)) → compLoop f (as.map g) h = some (.ok (as.flatMap k) h)
  | [], _ => rfl
  | a :: as, H => comp_cons (H a List.mem_cons_self) (comp_map fun y hy => H y (List.mem_cons_of_mem _ hy))
end
theorem range_mul {α : Type} (g : Nat → α) (c : Nat) : ∀ a : Nat, (List.range (a * c)).map g = (List.range a).flatMap fun q => (List.range c).map fun r => g (q * c + r)
  | 0 => by simp
  | a + 1 => by
    rw [Nat.succ_mul, List.range_add, List.map_append, range_mul g c a, List.range_succ, List.flatMap_append, List.map_map]
    congr 1
    rw [List.flatMap_cons, List.flatMap_nil, List.append_nil]
    rfl
theorem rangeD_nat (n : Nat) : rangeD 0 1 n = (List.range n).map fun k : Nat => D.int k := by
  unfold rangeD
  apply List.map_congr_left
  intro k _
  congr 1
  omega
end Ev
end

section
set_option Elab.async false
set_option linter.all false
set_option maxRecDepth 100000
namespace Ev
open PySem
/-! ### texts as lists of numbers -/
def st (l : List Nat) : Str := ⟨l.toArray⟩
def tx (l : List Nat) : D := .str (st l)
def nn (n : Nat) : D := .int n
theorem st_len (l : List Nat) : (st l).length = l.length := by
  show l.toArray.size = _
  rw [List.size_toArray]
theorem len_tx {l : List Nat} (h : l.length ≤ LIM) : o1 reprL .len (tx l) = some (nn l.length) := by
  show (if (st l).cps.size ≤ LIM then some (D.int (st l).cps.size) else none) = _
  have e : (st l).cps.size = l.length := List.size_toArray
  rw [e, if_pos h]
  rfl
theorem atI_nat {α : Type} {xs : List α} {k : Nat} {x : α} (h : xs[k]? = some x) : Ev.atI xs (k : Int) = some x := by
  unfold Ev.atI Ev.ixN
  have hk : k < xs.length := (List.getElem?_eq_some_iff.mp h).1
  rw [if_pos (by omega),
    if_pos (by omega)]
  show xs[(k : Int).toNat]? = _
  rw [Int.toNat_natCast]
  exact h
theorem ix_tx {l : List Nat} {k c : Nat} (h : l.length ≤ LIM) (hc : l[k]? = some c) : o2 .ix (tx l) (nn k) = some (tx [c]) := by
  show (if (st l).cps.size ≤ LIM then (Ev.atI (st l).cps.toList (k : Int)).map fun c => D.str ⟨#[c]⟩ else none) = _
  have e : (st l).cps.size = l.length := List.size_toArray
  rw [e, if_pos h]
  show (Ev.atI l (k : Int)).map _ = _
  rw [atI_nat hc]
  rfl
theorem in_tx (c : Nat) (S : List Nat) : o2 .inn (tx [c]) (tx S) = some (.bl (decide (c ∈ S))) := by
  show some (D.bl (!(Builtin.Str.occurrences (st S) (st [c]) 0 (st S).length 1).isEmpty)) = _
  rw [show st [c] = ⟨#[c]⟩ from rfl, StrLaws.found_one]
  rfl
theorem cut_nat {α : Type} {xs : List α} {i j : Nat} (h1 : i ≤ xs.length) (h2 : j ≤ xs.length) : cut xs (some (i : Int)) (some (j : Int)) = (xs.drop i).take (j - i) := by
  unfold cut
  have e : ∀ k d : Nat, k ≤ xs.length → Ev.sIx xs.length d (some (k : Int)) = k := fun k d h => by
    show (if (k : Int) < 0 then ((k : Int) + (xs.length : Int)).toNat else min (k : Int).toNat xs.length) = k
    rw [if_neg (by omega),
      Int.toNat_natCast]
    exact Nat.min_eq_left h
  rw [e i _ h1, e j _ h2]
theorem slice_tx {l : List Nat} {i j : Nat} (h : l.length ≤ LIM) (h1 : i ≤ l.length) (h2 : j ≤ l.length) : o3 .slice (tx l) (nn i) (nn j) = some (tx ((l.drop i).take (j - i))) := by
  show (if (st l).cps.size ≤ LIM then some (D.str (cutStr (st l) (some (i : Int)) (some (j : Int)))) else none) = _
  have e : (st l).cps.size = l.length := List.size_toArray
  rw [e, if_pos h]
  show some (D.str ⟨(cut l (some (i : Int)) (some (j : Int))).toArray⟩) = _
  rw [cut_nat h1 h2]
  rfl
theorem st_inj {a b : List Nat} : st a = st b ↔ a = b := by
  constructor
  · intro h
    have := congrArg (fun s : Str => s.cps.toList) h
    exact this
  · exact fun h => by rw [h]
theorem eqv_tx (a b : List Nat) : D.eqv (tx a) (tx b) = decide (a = b) := by
  show (st a == st b) = _
  by_cases e : a = b
  · rw [e, decide_eq_true rfl]
    exact beq_self_eq_true _
  · rw [decide_eq_false e]
    exact beq_eq_false_iff_ne.mpr fun z => e (st_inj.mp z)
theorem eq_tx (a b : List Nat) : o2 .eq (tx a) (tx b) = some (.bl (decide (a = b))) := by
  show (if cmpOk (tx a) (tx b) = true then some (D.bl (D.eqv (tx a) (tx b))) else none) = _
  rw [if_pos (show cmpOk (tx a) (tx b) = true from rfl), eqv_tx]
theorem ne_tx (a b : List Nat) : o2 .ne (tx a) (tx b) = some (.bl (!decide (a = b))) := by
  show (if cmpOk (tx a) (tx b) = true then some (D.bl (!D.eqv (tx a) (tx b))) else none) = _
  rw [if_pos (show cmpOk (tx a) (tx b) = true from rfl), eqv_tx]
theorem add_tx {a b : List Nat} (h : a.length + b.length ≤ LIM) : o2 .add (tx a) (tx b) = some (tx (a ++ b)) := by
  show (if (st a).cps.size + (st b).cps.size ≤ LIM then some (D.str (st a ++ st b)) else none) = _
  have e : ∀ l : List Nat, (st l).cps.size = l.length := fun l => List.size_toArray
  rw [e, e, if_pos h]
  show some (D.str ⟨a.toArray ++ b.toArray⟩) = _
  rw [List.append_toArray]
  rfl
theorem mul_tx {a : List Nat} {k : Nat} (h1 : a.length ≤ 1000) (h2 : k ≤ 1000) : o2 .mul (tx a) (nn k) = some (tx (List.replicate k a).flatten) := by
  show (if repOk (st a).cps.size (k : Int) = true then some (D.str ⟨(List.replicate (k : Int).toNat a).flatten.toArray⟩) else none) = _
  rw [if_pos, Int.toNat_natCast]
  · rfl
  · have e : (st a).cps.size = a.length := List.size_toArray
    unfold repOk
    simp only [andI, decI]
    omega
/-! join -/
def jn (S : List Nat) : List (List Nat) → List Nat
  | [] => []
  | [p] => p
  | p :: q :: r => p ++ (S ++ jn S (q :: r))
theorem st_app (a b : List Nat) : st a ++ st b = st (a ++ b) := by
  show (⟨a.toArray ++ b.toArray⟩ : Str) = _
  rw [List.append_toArray]
  rfl
theorem join_st (S : List Nat) : ∀ ts : List (List Nat), Str.join (st S) (ts.map st) = st (jn S ts)
  | [] => rfl
  | [_] => rfl
  | p :: q :: r => by
    show st p ++ st S ++ Str.join (st S) ((q :: r).map st) = st (p ++ (S ++ jn S (q :: r)))
    rw [join_st S (q :: r), st_app, st_app, List.append_assoc]
theorem strs_tx : ∀ ts : List (List Nat), strs? (ts.map tx) = some (ts.map st)
  | [] => rfl
  | t :: ts => by
    show (strs? (ts.map tx)).map (st t :: ·) = _
    rw [strs_tx ts]
    rfl
theorem join_tx {S : List Nat} {ts : List (List Nat)} (h : (ts.map (·.length)).sum + ts.length * S.length ≤ LIM) : o2 .join (tx S) (.lst (ts.map tx)) = some (tx (jn S ts)) := by
  show (strs? (ts.map tx)).bind _ = _
  rw [strs_tx]
  show (if ((ts.map st).map (·.length)).sum + (ts.map st).length * (st S).length ≤ LIM then some (D.str (Str.join (st S) (ts.map st))) else none) = _
  rw [if_pos, join_st]
  · rfl
  · rw [List.map_map, List.length_map, st_len]
    have : ((fun x : Str => x.length) ∘ st) = fun l : List Nat => l.length := funext st_len
    rw [this]
    exact h
theorem jn_nil : ∀ ts : List (List Nat), jn [] ts = ts.flatten
  | [] => rfl
  | [p] => by simp [jn]
  | p :: q :: r => by
    show p ++ ([] ++ jn [] (q :: r)) = _
    rw [jn_nil (q :: r)]
    rfl
theorem strD_st (l : List Nat) : strD (st l) = l.map fun c => tx [c] := rfl
theorem walk_tx {l : List Nat} (h : l.length ≤ LIM) : walk? (tx l) = some (l.map fun c => tx [c]) := by
  show (if (st l).cps.size ≤ LIM then some (strD (st l)) else none) = _
  have e : (st l).cps.size = l.length := List.size_toArray
  rw [e, if_pos h]
  rfl
theorem tw_take {α : Type} (p : α → Bool) : ∀ l : List α, l.take (l.takeWhile p).length = l.takeWhile p
  | [] => rfl
  | x :: l => by
    rw [List.takeWhile_cons]
    cases p x with
    | true => exact congrArg (x :: ·) (tw_take p l)
    | false => rfl
theorem tw_le {α : Type} (p : α → Bool) (l : List α) : (l.takeWhile p).length ≤ l.length := (List.takeWhile_sublist p).length_le
theorem le_one (a b : Nat) : o2 .le (tx [a]) (tx [b]) = some (.bl (decide (a ≤ b))) := by
  show some (D.bl (!decide ([b] < [a]))) = _
  have : ([b] < [a]) ↔ b < a := by
    constructor
    · intro h
      cases h with
      | rel h => exact h
      | cons h => cases h
    · exact fun h => .rel h
  by_cases e : a ≤ b
  · rw [decide_eq_false (fun z => by have := this.mp z; omega), decide_eq_true e]
    rfl
  · rw [decide_eq_true (this.mpr (by omega)), decide_eq_false e]
    rfl
theorem ne_nilD {ds : List D} (hp : D.plains ds = true) : o2 .ne (.lst ds) (.lst []) = some (.bl (!ds.isEmpty)) := by
  have h : cmpOk (.lst ds) (.lst []) = true := by
    unfold cmpOk
    show (D.plains ds && true && decide (min (D.depths ds + 1) (0 + 1) ≤ 64)) = true
    rw [hp, decide_eq_true (Nat.le_trans (Nat.min_le_right _ _) (by decide))]
    rfl
  show (if cmpOk (.lst ds) (.lst []) = true then some (D.bl (!D.eqv (.lst ds) (.lst []))) else none) = _
  rw [if_pos h]
  cases ds <;> rfl
theorem xiteT {Γ : Nat → List D → Heap → R D} {env : Env} {h h1 : Heap} {t a b : E} {r : R D} (e : evE reprL Γ t env h = some (.ok (.bl true) h1)) (k : evE reprL Γ a env h1 = r) : evE reprL Γ (.ite t a b) env h = r := by
  show R.bind (evE reprL Γ t env h) _ = _
  rw [e]
  exact k
theorem xiteF {Γ : Nat → List D → Heap → R D} {env : Env} {h h1 : Heap} {t a b : E} {r : R D} (e : evE reprL Γ t env h = some (.ok (.bl false) h1)) (k : evE reprL Γ b env h1 = r) : evE reprL Γ (.ite t a b) env h = r := by
  show R.bind (evE reprL Γ t env h) _ = _
  rw [e]
  exact k
theorem xandF {Γ : Nat → List D → Heap → R D} {env : Env} {h h1 : Heap} {a b : E} (ea : evE reprL Γ a env h = some (.ok (.bl false) h1)) : evE reprL Γ (.and a b) env h = some (.ok (.bl false) h1) := by
  show R.bind (evE reprL Γ a env h) _ = _
  rw [ea]
  rfl
theorem xorT {Γ : Nat → List D → Heap → R D} {env : Env} {h h1 : Heap} {a b : E} (ea : evE reprL Γ a env h = some (.ok (.bl true) h1)) : evE reprL Γ (.or a b) env h = some (.ok (.bl true) h1) := by
  show R.bind (evE reprL Γ a env h) _ = _
  rw [ea]
  rfl
theorem lt_nn (a b : Nat) : o2 .lt (nn a) (nn b) = some (.bl (decide (a < b))) := by
  show some (D.bl (decide ((a : Int) < (b : Int)))) = _
  rw [decide_eq_decide.mpr Int.ofNat_lt]
theorem gt_nn (a b : Nat) : o2 .gt (nn a) (nn b) = some (.bl (decide (b < a))) := lt_nn b a
theorem eq_nn (a b : Nat) : o2 .eq (nn a) (nn b) = some (.bl (decide (a = b))) := by
  show some (D.bl ((a : Int) == (b : Int))) = _
  congr 2
  by_cases e : a = b
  · rw [e, decide_eq_true rfl]
    exact beq_self_eq_true _
  · rw [decide_eq_false e]
    exact beq_eq_false_iff_ne.mpr fun z => e (by omega)
theorem sub_nn {a b : Nat} (h : b ≤ a) : o2 .sub (nn a) (nn b) = some (nn (a - b)) := by
  show some (D.int ((a : Int) - (b : Int))) = _
  rw [← Int.ofNat_sub h]
  rfl
theorem run_app {Γ : Nat → List D → Heap → R D} {env : Env} {h h1 : Heap} {a : E} {i : Nat} {d : D} {xs : List D} (e : evE reprL Γ a env h = some (.ok d h1)) (hi : env[i]? = some (.own (.lst xs))) (hl : xs.length < LIM) :
    evS reprL Γ (.app i a) env h = some (.ok (.nx (env.set i (.own (.lst (xs ++ [d]))))) h1) := by
  show R.bind (evE reprL Γ a env h) _ = _
  rw [e]
  show (match env[i]? with
    | some (.own (.lst xs)) => if xs.length < LIM then rok (Flow.nx (env.set i (.own (.lst (xs ++ [d]))))) h1 else none
    | _ => none) = _
  rw [hi]
  exact if_pos hl
theorem run_setO {Γ : Nat → List D → Heap → R D} {env : Env} {h h1 h2 : Heap} {a b : E} {i k : Nat} {j : Int} {d : D} {xs : List D} (e : evE reprL Γ b env h = some (.ok d h1)) (ej : evE reprL Γ a env h1 = some (.ok (.int j) h2)) (hi : env[i]? = some (.own (.lst xs))) (hk : Ev.ixN xs.length j = some k) :
    evS reprL Γ (.setO i a b) env h = some (.ok (.nx (env.set i (.own (.lst (xs.set k d))))) h2) := by
  show R.bind (evE reprL Γ b env h) _ = _
  rw [e]
  show R.bind (evE reprL Γ a env h1) _ = _
  rw [ej]
  show (match env[i]?, D.int j with
    | some (.own (.lst xs)), .int k => match Ev.ixN xs.length k with
      | some n => rok (Flow.nx (env.set i (.own (.lst (xs.set n d))))) h2
      | none => none
    | _, _ => none) = _
  rw [hi]
  show (match Ev.ixN xs.length j with
      | some n => rok (Flow.nx (env.set i (.own (.lst (xs.set n d))))) h2
      | none => none) = _
  rw [hk]
end Ev
end

section
set_option Elab.async false
set_option linter.all false
set_option maxRecDepth 100000
namespace K06
open Ev
/-! ### the mathematics: marks -/
def kd (c : Nat) : Nat := if 97 ≤ c ∧ c ≤ 122 then 1 else if 48 ≤ c ∧ c ≤ 57 then 2 else 0
abbrev same (c : Nat) : Nat → Bool := fun x => kd x == kd c
/-- the mark that begins with c -/
def mk (c : Nat) (r : List Nat) : List Nat := if kd c = 0 then [c] else c :: r.takeWhile (same c)
def rest (c : Nat) (r : List Nat) : List Nat := r.drop ((mk c r).length - 1)
abbrev Mk := Nat × Nat × List Nat
def F (ln col : Nat) : List Nat → List Mk
  | [] => []
  | c :: r =>
    (if mk c r = [32] then [] else [(ln, col, mk c r)]) ++ (if mk c r = [10] then F (ln + 1) 0 (rest c r) else F ln (col + (mk c r).length) (rest c r))
  termination_by l => l.length
  decreasing_by all_goals (simp only [rest, List.length_drop, List.length_cons]; omega)
theorem F_nil (ln col : Nat) : F ln col [] = [] := by rw [F]
theorem F_cons (ln col c : Nat) (r : List Nat) : F ln col (c :: r) = (if mk c r = [32] then [] else [(ln, col, mk c r)]) ++ (if mk c r = [10] then F (ln + 1) 0 (rest c r) else F ln (col + (mk c r).length) (rest c r)) := by rw [F]
theorem mk_app (c : Nat) (r : List Nat) : c :: r = mk c r ++ rest c r := by
  unfold rest mk
  by_cases h : kd c = 0
  · rw [if_pos h]
    rfl
  · rw [if_neg h]
    show c :: r = c :: (r.takeWhile (same c) ++ r.drop ((r.takeWhile (same c)).length + 1 - 1))
    rw [Nat.add_sub_cancel]
    have := List.take_append_drop (r.takeWhile (same c)).length r
    rw [tw_take] at this
    rw [this]
theorem mk_pos (c : Nat) (r : List Nat) : 1 ≤ (mk c r).length := by
  unfold mk
  by_cases h : kd c = 0
  · rw [if_pos h]
    exact Nat.le_refl _
  · rw [if_neg h]
    simp
theorem mk_len (c : Nat) (r : List Nat) : (mk c r).length + (rest c r).length = r.length + 1 := by
  have := congrArg List.length (mk_app c r)
  simp only [List.length_cons, List.length_append] at this
  omega
/-! the law's way: sign by sign -/
abbrev Q := Nat × Nat × List Nat × Nat
abbrev LS := List Q × Nat × Nat
def ext (ln at' c : Nat) : Option Q → Bool
  | some (l, a, t, k) => decide (0 < kd c) && decide (k = kd c) && decide (l = ln) && decide (a + t.length = at')
  | none => false
def grow (c : Nat) : Q → Q
  | (l, a, t, k) => (l, a, t ++ [c], k)
def lfs (s : LS) (c : Nat) : List Q :=
  if ext s.2.1 s.2.2 c s.1.getLast? then s.1.dropLast ++ (s.1.getLast?.map (grow c)).toList
  else if c = 32 then s.1 else s.1 ++ [(s.2.1, s.2.2, [c], kd c)]
def lstep (s : LS) (c : Nat) : LS := (lfs s c, if c = 10 then (s.2.1 + 1, 0) else (s.2.1, s.2.2 + 1))
def cut3 (q : Q) : Mk := (q.1, q.2.1, q.2.2.1)
/-- the last mark can take no sign more here -/
def Shut (fs : List Q) (ln at' : Nat) : Prop := ∀ q, fs.getLast? = some q → q.2.2.2 = 0 ∨ q.1 ≠ ln ∨ q.2.1 + q.2.2.1.length ≠ at'
theorem kd32 : kd 32 = 0 := by decide
theorem kd10 : kd 10 = 0 := by decide
theorem shut_ext {fs : List Q} {ln at' c : Nat} (h : Shut fs ln at') : ext ln at' c fs.getLast? = false := by
  cases e : fs.getLast? with
  | none => rfl
  | some q =>
    obtain ⟨l, a, t, k⟩ := q
    have := h _ e
    simp only at this
    show (decide (0 < kd c) && decide (k = kd c) && decide (l = ln) && decide (a + t.length = at')) = false
    rw [Bool.eq_false_iff]
    intro z
    simp only [andI, decI] at z
    omega
/-- an open mark takes all signs of its kind -/
theorem run_open (k : Nat) (hk : 0 < k) : ∀ (r : List Nat) (gs : List Q) (ln a : Nat) (t : List Nat), (∀ x ∈ r, kd x = k) →
    r.foldl lstep (gs ++ [(ln, a, t, k)], ln, a + t.length) = (gs ++ [(ln, a, t ++ r, k)], ln, a + t.length + r.length)
  | [], gs, ln, a, t, _ => by simp
  | c :: r, gs, ln, a, t, h => by
    have hc : kd c = k := h c List.mem_cons_self
    have hn : c ≠ 10 := fun e => by
      rw [e, kd10] at hc
      omega
    have e : lstep (gs ++ [(ln, a, t, k)], ln, a + t.length) c = (gs ++ [(ln, a, t ++ [c], k)], ln, a + (t ++ [c]).length) := by
      have hx : ext ln (a + t.length) c (gs ++ [(ln, a, t, k)]).getLast? = true := by
        rw [List.getLast?_concat]
        show (decide (0 < kd c) && decide (k = kd c) && decide (ln = ln) && decide (a + t.length = a + t.length)) = true
        simp only [andI, decI]
        exact ⟨⟨⟨by omega, hc.symm⟩, trivial⟩, trivial⟩
      unfold lstep lfs
      rw [if_pos hx, if_neg hn, List.getLast?_concat, List.dropLast_concat]
      simp [grow, Nat.add_assoc]
    rw [List.foldl_cons, e, run_open k hk r gs ln a (t ++ [c]) fun x hx => h x (List.mem_cons_of_mem _ hx)]
    simp only [List.length_append, List.length_cons, List.length_nil, List.append_assoc, List.cons_append, List.nil_append, Prod.mk.injEq, and_true, true_and]
    omega
theorem tw_same {c : Nat} : ∀ {r : List Nat}, ∀ x ∈ r.takeWhile (same c), kd x = kd c
  | [], x, h => by cases h
  | y :: r, x, h => by
    rw [List.takeWhile_cons] at h
    split at h
    · rename_i e
      obtain z | z := List.mem_cons.mp h
      · rw [z]
        exact beq_iff_eq.mp e
      · exact tw_same x z
    · cases h
theorem lfs_new {fs : List Q} {ln at' c : Nat} (h : ext ln at' c fs.getLast? = false) (h32 : c ≠ 32) : lfs (fs, ln, at') c = fs ++ [(ln, at', [c], kd c)] := by
  unfold lfs
  rw [if_neg (by rw [h]; decide), if_neg h32]
theorem open_rest {c : Nat} {r : List Nat} (hk : 0 < kd c) : ∀ x l, rest c r = x :: l → kd x ≠ kd c := by
  intro x l e
  have hm : mk c r = c :: r.takeWhile (same c) := if_neg (by omega)
  unfold rest at e
  rw [hm] at e
  have e : r.drop (r.takeWhile (same c)).length = x :: l := e
  have key : ∀ r : List Nat, r.drop (r.takeWhile (same c)).length = x :: l → kd x ≠ kd c := by
    intro r
    induction r with
    | nil => intro e; simp at e
    | cons y r ih =>
      intro e
      rw [List.takeWhile_cons] at e
      cases hy : same c y with
      | true =>
        rw [if_pos hy] at e
        exact ih e
      | false =>
        rw [if_neg (by rw [hy]; decide)] at e
        have : y = x := by
          have := congrArg List.head? e
          simpa using this
        rw [← this]
        intro z
        have : same c y = true := beq_iff_eq.mpr z
        rw [hy] at this
        cases this
  exact key r e
/-- what may follow -/
def Ok (fs : List Q) (ln at' : Nat) (l : List Nat) : Prop := ∀ c r, l = c :: r → ext ln at' c fs.getLast? = false
theorem law_way : ∀ (n : Nat) (l : List Nat) (fs : List Q) (ln at' : Nat), l.length ≤ n → Ok fs ln at' l → (∀ q ∈ fs.getLast?, q.1 ≤ ln ∧ (q.1 = ln → q.2.1 + q.2.2.1.length ≤ at')) →
    (l.foldl lstep (fs, ln, at')).1.map cut3 = fs.map cut3 ++ F ln at' l
  | _, [], fs, ln, at', _, _, _ => by rw [F_nil, List.append_nil]; rfl
  | 0, c :: r, _, _, _, h, _, _ => by simp at h
  | n + 1, c :: r, fs, ln, at', hn, hok, hle => by
    have hx := hok c r rfl
    rw [F_cons]
    by_cases hk : kd c = 0
    · have hm : mk c r = [c] := if_pos hk
      have hr : rest c r = r := by
        unfold rest
        rw [hm]
        rfl
      rw [hm, hr, List.foldl_cons]
      have hlen : r.length ≤ n := by simpa using hn
      by_cases h32 : c = 32
      · subst h32
        have e : lstep (fs, ln, at') 32 = (fs, ln, at' + 1) := by
          unfold lstep lfs
          rw [if_neg (by rw [hx]; decide)]
          rfl
        rw [e, if_pos rfl, if_neg (by decide), List.nil_append]
        refine law_way n r fs ln (at' + 1) hlen (fun c' r' _ => shut_ext fun q hq => ?_) fun q hq => ?_
        · have := hle q hq
          omega
        · have := hle q hq
          omega
      · by_cases h10 : c = 10
        · subst h10
          have e : lstep (fs, ln, at') 10 = (fs ++ [(ln, at', [10], 0)], ln + 1, 0) := by
            show (lfs (fs, ln, at') 10, _) = _
            rw [lfs_new hx h32]
            rfl
          rw [e, if_neg (by decide), if_pos rfl]
          rw [law_way n r _ (ln + 1) 0 hlen (fun c' r' _ => shut_ext fun q hq => ?_) fun q hq => ?_]
          · simp [cut3]
          · rw [List.getLast?_concat] at hq
            cases hq
            exact .inl rfl
          · rw [List.getLast?_concat] at hq
            cases hq
            simp only
            omega
        · have e : lstep (fs, ln, at') c = (fs ++ [(ln, at', [c], 0)], ln, at' + 1) := by
            show (lfs (fs, ln, at') c, if c = 10 then _ else _) = _
            rw [lfs_new hx h32, if_neg h10, hk]
          rw [e, if_neg (fun z => h32 (List.cons.inj z).1), if_neg (fun z => h10 (List.cons.inj z).1)]
          rw [law_way n r _ ln (at' + 1) hlen (fun c' r' _ => shut_ext fun q hq => ?_) fun q hq => ?_]
          · simp [cut3]
          · rw [List.getLast?_concat] at hq
            cases hq
            exact .inl rfl
          · rw [List.getLast?_concat] at hq
            cases hq
            exact ⟨Nat.le_refl _, fun _ => Nat.le_refl _⟩
    · have hpos : 0 < kd c := by omega
      have hm : mk c r = c :: r.takeWhile (same c) := if_neg hk
      have h32 : c ≠ 32 := fun e => hk (e ▸ kd32)
      have h10 : c ≠ 10 := fun e => hk (e ▸ kd10)
      have hml := mk_len c r
      have n32 : mk c r ≠ [32] := fun z => by
        rw [hm] at z
        exact h32 (List.cons.inj z).1
      have n10 : mk c r ≠ [10] := fun z => by
        rw [hm] at z
        exact h10 (List.cons.inj z).1
      have e1 : lstep (fs, ln, at') c = (fs ++ [(ln, at', [c], kd c)], ln, at' + 1) := by
        show (lfs (fs, ln, at') c, if c = 10 then _ else _) = _
        rw [lfs_new hx h32, if_neg h10]
      have e2 : (c :: r).foldl lstep (fs, ln, at') = (rest c r).foldl lstep (fs ++ [(ln, at', mk c r, kd c)], ln, at' + (mk c r).length) := by
        have : (c :: r).foldl lstep (fs, ln, at') = (mk c r ++ rest c r).foldl lstep (fs, ln, at') := by rw [← mk_app]
        rw [this, List.foldl_append, hm, List.foldl_cons, e1]
        have := run_open (kd c) hpos (r.takeWhile (same c)) fs ln at' [c] tw_same
        rw [show at' + [c].length = at' + 1 from rfl] at this
        rw [this]
        have en : at' + 1 + (r.takeWhile (same c)).length = at' + (c :: r.takeWhile (same c)).length := by
          rw [List.length_cons]
          omega
        rw [en]
        rfl
      rw [e2, if_neg n32, if_neg n10]
      have hl : (rest c r).length ≤ n := by
        have := mk_pos c r
        rw [List.length_cons] at hn
        omega
      rw [law_way n (rest c r) _ ln _ hl (fun c' r' e => ?_) fun q hq => ?_]
      · simp [cut3]
      · rw [List.getLast?_concat]
        show (decide (0 < kd c') && decide (kd c = kd c') && decide (ln = ln) && decide (at' + (mk c r).length = at' + (mk c r).length)) = false
        have := open_rest hpos c' r' e
        rw [decide_eq_false (fun z => this z.symm : ¬ kd c = kd c'), Bool.and_false]
        rfl
      · rw [List.getLast?_concat] at hq
        cases hq
        exact ⟨Nat.le_refl _, fun _ => Nat.le_refl _⟩
/-- the law's marks are the program's -/
theorem law_marks (l : List Nat) : (l.foldl lstep ([], 0, 0)).1.map cut3 = F 0 0 l := by
  have := law_way l.length l [] 0 0 (Nat.le_refl _) (fun _ _ _ => rfl) fun q hq => by cases hq
  simpa using this
/-! marks joined by blanks are cut into the same marks -/
def word (m : List Nat) : Prop := (∃ c, m = [c] ∧ kd c = 0 ∧ c ≠ 32) ∨ ∃ c t, m = c :: t ∧ 0 < kd c ∧ ∀ x ∈ t, kd x = kd c
theorem F_words : ∀ (n : Nat) (l : List Nat) (ln col : Nat), l.length ≤ n → ∀ m ∈ F ln col l, word m.2.2
  | _, [], ln, col, _, m, h => by rw [F_nil] at h; cases h
  | 0, c :: r, _, _, h, _, _ => by simp at h
  | n + 1, c :: r, ln, col, hn, m, h => by
    have hl : (rest c r).length ≤ n := by
      have := mk_len c r
      have := mk_pos c r
      simp at hn
      omega
    rw [F_cons] at h
    obtain h | h := List.mem_append.mp h
    · split at h
      · cases h
      · rename_i h32
        rw [List.mem_singleton] at h
        subst h
        by_cases hk : kd c = 0
        · have hm : mk c r = [c] := if_pos hk
          exact .inl ⟨c, hm, hk, fun e => h32 (by rw [hm, e])⟩
        · exact .inr ⟨c, _, if_neg hk, by omega, tw_same⟩
    · split at h
      · exact F_words n _ _ _ hl m h
      · exact F_words n _ _ _ hl m h
theorem tw_all {p : Nat → Bool} : ∀ (t s : List Nat), (∀ x ∈ t, p x = true) → (∀ y l, s = y :: l → p y = false) → (t ++ s).takeWhile p = t
  | [], s, _, h => by
    cases s with
    | nil => rfl
    | cons y l => rw [List.nil_append, List.takeWhile_cons, if_neg (by rw [h y l rfl]; decide)]
  | x :: t, s, h1, h2 => by
    rw [List.cons_append, List.takeWhile_cons, if_pos (h1 x List.mem_cons_self), tw_all t s (fun y hy => h1 y (List.mem_cons_of_mem _ hy)) h2]
theorem mk_word {m s : List Nat} (h : word m) (hs : s = [] ∨ ∃ l, s = 32 :: l) : ∃ c t, m = c :: t ∧ mk c (t ++ s) = m ∧ rest c (t ++ s) = s ∧ m ≠ [32] := by
  rcases h with ⟨c, rfl, hk, h32⟩ | ⟨c, t, rfl, hk, ht⟩
  · have hm : mk c ([] ++ s) = [c] := if_pos hk
    refine ⟨c, [], rfl, hm, ?_, fun z => h32 (List.cons.inj z).1⟩
    unfold rest
    rw [hm]
    rfl
  · have e : (t ++ s).takeWhile (same c) = t := by
      refine tw_all t s (fun x hx => beq_iff_eq.mpr (ht x hx)) fun y l e => ?_
      rcases hs with z | ⟨l', z⟩
      · rw [z] at e
        cases e
      · rw [z] at e
        cases e
        show (kd 32 == kd c) = false
        rw [kd32]
        exact beq_eq_false_iff_ne.mpr fun z => by omega
    have hm : mk c (t ++ s) = c :: t := by
      unfold mk
      rw [if_neg (by omega), e]
    refine ⟨c, t, rfl, hm, ?_, fun z => ?_⟩
    · unfold rest
      rw [hm, List.length_cons, Nat.add_sub_cancel, List.drop_left]
    · have := (List.cons.inj z).1
      rw [this, kd32] at hk
      omega
theorem blank (ln col : Nat) (l : List Nat) : F ln col (32 :: l) = F ln (col + 1) l := by
  have hm : mk 32 l = [32] := if_pos kd32
  rw [F_cons, hm, if_pos rfl, if_neg (by decide)]
  unfold rest
  rw [hm]
  rfl
theorem F_jn : ∀ (ms : List (List Nat)) (ln col : Nat), (∀ m ∈ ms, word m) → (F ln col (jn [32] ms)).map (·.2.2) = ms
  | [], ln, col, _ => by
    show (F ln col []).map _ = _
    rw [F_nil]
    rfl
  | [m], ln, col, h => by
    show (F ln col m).map _ = _
    obtain ⟨c, t, e, e1, e2, e3⟩ := mk_word (s := []) (h m (by simp)) (.inl rfl)
    rw [List.append_nil] at e1 e2
    rw [e, F_cons, e1, e2, if_neg e3]
    have : (if m = [10] then F (ln + 1) 0 [] else F ln (col + m.length) []) = [] := by split <;> rw [F_nil]
    rw [this]
    simp [e]
  | m :: q :: r, ln, col, h => by
    show (F ln col (m ++ (32 :: jn [32] (q :: r)))).map _ = _
    obtain ⟨c, t, e, e1, e2, e3⟩ := mk_word (s := 32 :: jn [32] (q :: r)) (h m List.mem_cons_self) (.inr ⟨_, rfl⟩)
    have ih := fun ln col => F_jn (q :: r) ln col fun x hx => h x (List.mem_cons_of_mem _ hx)
    have e' : m ++ (32 :: jn [32] (q :: r)) = c :: (t ++ (32 :: jn [32] (q :: r))) := by rw [e]; rfl
    rw [e', F_cons, e1, e2, if_neg e3]
    split
    · rw [blank, List.map_append, ih]
      rfl
    · rw [blank, List.map_append, ih]
      rfl
end K06
end

section
set_option Elab.async false
set_option linter.all false
set_option maxRecDepth 100000
namespace Dr
open PySem L2 Ev
/-! ### the draw -/
/-- the box: its cells, its stir -/
def box (cs : List Int) (s : Int) : Ev.Heap := [cs.map D.int, [.ref 0, .int s]]
def Box (h : Ev.Heap) : Prop := ∃ cs s, h = box cs s ∧ 0 ≤ s ∧ s < 2147483647 ∧ cs.length ≤ 60
theorem mulS {a b : Int} (ha : -(2 ^ 63) < a ∧ a < 2 ^ 63) (hb : -(2 ^ 63) < b ∧ b < 2 ^ 63) : mulOk a b = true := mulOk_small (by omega) (by omega)
section
variable {Γ : Nat → List D → Ev.Heap → R D} {cs : List Int} {s many : Int} {x : Sl}
abbrev env6 (many : Int) (x : Sl) : Ev.Env := [.val (.ref 1), .val (.int many), x]
abbrev c0 : E := .op2 .ix (.view 0) (.cst (.int 0))
theorem c0_ok : evE reprL Γ c0 (env6 many x) (box cs s) = some (.ok (.ref 0) (box cs s)) := rfl
theorem t1_ok : evE reprL Γ (.op2 .ne c0 (.lst [])) (env6 many x) (box cs s) = some (.ok (.bl (!cs.isEmpty)) (box cs s)) := by
  show lift (box cs s) (o2 .ne (.lst (cs.map D.int)) (.lst [])) = _
  rw [ne_nil]
  rfl
theorem t2_ok {ys : List Int} {y : Int} : evE reprL Γ (.op2 .eq (.op2 .ix c0 (.op1 .neg (.cst (.int 1)))) (.cst (.int 0))) (env6 many x) (box (ys ++ [y]) s) = some (.ok (.bl (y == 0)) (box (ys ++ [y]) s)) := by
  show R.bind (lift (box (ys ++ [y]) s) (Ev.atI ((ys ++ [y]).map D.int) (-1))) _ = _
  rw [List.map_append, show [y].map D.int = [D.int y] from rfl, Ev.atI_last]
  rfl
theorem pop_ok {ys : List Int} {y : Int} : evE reprL Γ (.pop c0) (env6 many x) (box (ys ++ [y]) s) = some (.ok (.int y) (box ys s)) := by
  show (match ((ys ++ [y]).map D.int).getLast? with | some z => some (Out.ok z ((box (ys ++ [y]) s).set 0 ((ys ++ [y]).map D.int).dropLast)) | none => none) = _
  rw [List.map_append, show [y].map D.int = [D.int y] from rfl, List.getLast?_append, List.dropLast_concat]
  rfl
theorem while_ok : ∀ (n : Nat) (cs : List Int), cs.length = n → ∃ cs', loopW (whileTurn Γ (.and (.op2 .ne c0 (.lst [])) (.op2 .eq (.op2 .ix c0 (.op1 .neg (.cst (.int 1)))) (.cst (.int 0)))) [.ex (.pop c0)]) (env6 many x) (box cs s) = some (.ok (.nx (env6 many x)) (box cs' s)) ∧ cs'.length ≤ cs.length
  | n, cs, hn => by
    by_cases e : cs = []
    · subst e
      refine ⟨[], while_F ?_, Nat.le_refl _⟩
      show R.bind (evE reprL Γ (.op2 .ne c0 (.lst [])) (env6 many x) (box [] s)) _ = _
      rw [t1_ok]
      rfl
    · obtain ⟨ys, y, rfl⟩ := split_last e
      have t : evE reprL Γ (.and (.op2 .ne c0 (.lst [])) (.op2 .eq (.op2 .ix c0 (.op1 .neg (.cst (.int 1)))) (.cst (.int 0)))) (env6 many x) (box (ys ++ [y]) s) = some (.ok (.bl (y == 0)) (box (ys ++ [y]) s)) := by
        show R.bind (evE reprL Γ (.op2 .ne c0 (.lst [])) (env6 many x) (box (ys ++ [y]) s)) _ = _
        rw [t1_ok]
        have : (ys ++ [y]).isEmpty = false := by simp
        rw [this]
        exact t2_ok
      by_cases z : y = 0
      · subst z
        have hl : ys.length < n := by
          rw [← hn]
          simp
        obtain ⟨cs', k1, k2⟩ := while_ok ys.length ys rfl
        refine ⟨cs', while_T t (run_cons (show R.bind (evE reprL Γ (.pop c0) (env6 many x) (box (ys ++ [0]) s)) _ = _ by rw [pop_ok]; rfl) rfl) k1, by simp; omega⟩
      · refine ⟨ys ++ [y], while_F ?_, Nat.le_refl _⟩
        rw [t, show (y == 0) = false by simpa using z]
  termination_by n => n
theorem fdiv_ok {a : Int} (h1 : 0 < many) (h2 : many < 2 ^ 62) : o2 .fdiv (.int a) (.int many) = some (.int (a / many)) := by
  show (if (decide (0 < many) && decide (many.natAbs.log2 < 9000)) = true then some (D.int (a / many)) else none) = _
  have : many.natAbs.log2 < 64 := log_small (by omega)
  rw [if_pos]
  simp only [andI, decI]
  omega
theorem mod_ok {a b : Int} (h1 : 0 < b) : o2 .mod (.int a) (.int b) = some (.int (a % b)) := by
  show (if decide (0 < b) = true then some (D.int (a % b)) else none) = _
  rw [if_pos (decide_eq_true h1)]
theorem mul_ok {a b : Int} (ha : -(2 ^ 63) < a ∧ a < 2 ^ 63) (hb : -(2 ^ 63) < b ∧ b < 2 ^ 63) : o2 .mul (.int a) (.int b) = some (.int (a * b)) := by
  show (if mulOk a b = true then some (D.int (a * b)) else none) = _
  rw [if_pos (mulS ha hb)]
def bDraw (m a : Int) : List S := [
  .whil (.and (.op2 .ne (.op2 .ix (.view 0) (.cst (.int 0))) (.lst [])) (.op2 .eq (.op2 .ix (.op2 .ix (.view 0) (.cst (.int 0))) (.op1 .neg (.cst (.int 1)))) (.cst (.int 0)))) [.ex (.pop (.op2 .ix (.view 0) (.cst (.int 0))))],
  .ifs (.op2 .ne (.op2 .ix (.view 0) (.cst (.int 0))) (.lst [])) [.asg (.name 2) (.pop (.op2 .ix (.view 0) (.cst (.int 0)))), .boxApp (.op2 .ix (.view 0) (.cst (.int 0))) (.op2 .fdiv (.view 2) (.view 1)), .ret (.op2 .mod (.op1 .int (.view 2)) (.view 1))] [],
  .boxSet (.var 0) (.cst (.int 1)) (.op2 .mod (.op1 .int (.op2 .add (.op2 .mul (.op2 .ix (.view 0) (.cst (.int 1))) (.cst (.int m))) (.cst (.int a)))) (.cst (.int 2147483647))),
  .ret (.op2 .mod (.op1 .int (.op2 .fdiv (.op2 .ix (.view 0) (.cst (.int 1))) (.cst (.int 32)))) (.view 1))]
def fDraw (m a : Int) : Fn := ⟨3, [false, false], bDraw m a⟩
theorem draw_run (m a : Int) (hm : 0 ≤ m ∧ m < 2 ^ 62) (cs : List Int) (s many : Int) (h1 : 0 < many) (h2 : many < 2 ^ 62) (hs : 0 ≤ s ∧ s < 2147483647) (hc : cs.length ≤ 60) : ∃ r h', evFn reprL Γ (fDraw m a) [.ref 1, .int many] (box cs s) = some (.ok (.int r) h') ∧ Box h' ∧ 0 ≤ r ∧ r < many := by
  obtain ⟨cs', w, hl⟩ := while_ok (Γ := Γ) (many := many) (x := .none) (s := s) cs.length cs rfl
  by_cases e : cs' = []
  · subst e
    have hs' : 0 ≤ (s * m + a) % 2147483647 ∧ (s * m + a) % 2147483647 < 2147483647 := ⟨Int.emod_nonneg _ (by decide), Int.emod_lt_of_pos _ (by decide)⟩
    refine ⟨(s * m + a) % 2147483647 / 32 % many, box [] ((s * m + a) % 2147483647), fn_ret rfl ?_, ⟨_, _, rfl, hs'.1, hs'.2, by simp⟩, Int.emod_nonneg _ (by omega), Int.emod_lt_of_pos _ h1⟩
    refine run_cons w (run_cons (h' := box [] s) (run_ifF (h' := box [] s) ?_ run_nil) (run_cons (h' := box [] ((s * m + a) % 2147483647)) (env' := env6 many .none) ?_ (run_ret ?_)))
    · rw [t1_ok]
      rfl
    · have m1 := mul_ok (a := s) (b := m) (by omega) (by omega)
      have m2 := mod_ok (a := s * m + a) (b := 2147483647) (by decide)
      show R.bind (R.bind (R.bind (R.bind (lift (box [] s) (o2 .mul (.int s) (.int m))) _) _) _) _ = _
      rw [m1]
      show R.bind (lift (box [] s) (o2 .mod (.int (s * m + a)) (.int 2147483647))) _ = _
      rw [m2]
      rfl
    · have m2 := mod_ok (a := (s * m + a) % 2147483647 / 32) h1
      show R.bind (lift _ (o2 .mod (.int ((s * m + a) % 2147483647 / 32)) (.int many))) _ = _
      rw [m2]
      rfl
  · obtain ⟨ys, y, rfl⟩ := split_last e
    refine ⟨y % many, box (ys ++ [y / many]) s, fn_ret rfl ?_, ⟨_, _, rfl, hs.1, hs.2, by simp at hl ⊢; omega⟩, Int.emod_nonneg _ (by omega), Int.emod_lt_of_pos _ h1⟩
    refine run_cons w (run_ret (run_ifT (h' := box (ys ++ [y]) s) ?_ (run_cons (env' := env6 many (.val (.int y))) (h' := box ys s) ?_ (run_cons (env' := env6 many (.val (.int y))) (h' := box (ys ++ [y / many]) s) ?_ (run_ret ?_)))))
    · rw [t1_ok]
      simp
    · show R.bind (evE reprL _ (.pop c0) (env6 many .none) (box (ys ++ [y]) s)) _ = _
      rw [pop_ok]
      rfl
    · have m := fdiv_ok (a := y) h1 h2
      show R.bind (lift (box ys s) (o2 .fdiv (.int y) (.int many))) _ = _
      rw [m]
      have hlen : (ys.map D.int).length < LIM := by
        rw [List.length_map]
        simp at hl
        show ys.length < 16777216
        omega
      show (if (ys.map D.int).length < LIM then some (Out.ok (Flow.nx _) ((box ys s).set 0 (ys.map D.int ++ [D.int (y / many)]))) else none) = _
      rw [if_pos hlen, show ys.map D.int ++ [D.int (y / many)] = (ys ++ [y / many]).map D.int by simp]
      rfl
    · have m2 := mod_ok (a := y) h1
      show R.bind (lift _ (o2 .mod (.int y) (.int many))) _ = _
      rw [m2]
      rfl
end
theorem cut_map {α β : Type} (f : α → β) (xs : List α) (lo hi : Option Int) : cut (xs.map f) lo hi = (cut xs lo hi).map f := by
  unfold cut
  rw [List.length_map, ← List.map_drop, ← List.map_take]
theorem cut60 {α : Type} (xs : List α) : (cut xs none (some 60)).length ≤ 60 := by
  unfold cut
  rw [List.length_take]
  have : Ev.sIx xs.length xs.length (some 60) ≤ 60 := by
    unfold Ev.sIx
    show (if (60 : Int) < 0 then ((60 : Int) + (xs.length : Int)).toNat else min 60 xs.length) ≤ 60
    rw [if_neg (by decide)]
    exact Nat.min_le_left _ _
  omega
/-! ### the box is made -/
section
variable {Γ : Nat → List D → Ev.Heap → R D}
theorem stir_ok (m a : Int) (hm : 0 ≤ m ∧ m < 2 ^ 62) {e0 : Sl} {cells : D} {h : Ev.Heap} : ∀ (cs : List Int) (s : Int) (x : Sl), (0 ≤ s ∧ s < 2147483647) → Ev.isOwnSl (some x) = false → ∃ s' x', forLoop (forTurn Γ (.name 1) [.asg (.name 3) (.op2 .mod (.op1 .int (.op2 .add (.op2 .add (.op2 .mul (.view 3) (.cst (.int m))) (.op2 .mod (.op1 .int (.view 1)) (.cst (.int 2147483563)))) (.cst (.int a)))) (.cst (.int 2147483647)))])
      (cs.map D.int) [e0, x, .val cells, .val (.int s)] h = some (.ok (.nx [e0, x', .val cells, .val (.int s')]) h) ∧ 0 ≤ s' ∧ s' < 2147483647 ∧ Ev.isOwnSl (some x') = false
  | [], s, x, hs, hx => ⟨s, x, rfl, hs.1, hs.2, hx⟩
  | c :: cs, s, x, hs, hx => by
    obtain ⟨s', x', k, k1⟩ := stir_ok m a hm cs ((s * m + c % 2147483563 + a) % 2147483647) (.val (.int c)) ⟨Int.emod_nonneg _ (by decide), Int.emod_lt_of_pos _ (by decide)⟩ rfl
    refine ⟨s', x', loop_cons ?_ k, k1⟩
    have ht : setTg (.name 1) (.int c) [e0, x, .val cells, .val (.int s)] = some [e0, .val (.int c), .val cells, .val (.int s)] := by
      show (if Ev.isOwnSl (some x) = true then none else _) = _
      rw [hx]
      rfl
    show (match setTg (.name 1) (.int c) [e0, x, .val cells, .val (.int s)] with | some env => _ | none => none) = _
    rw [ht]
    refine run_cons (run_asg (x2 (x1 (x2 (x2 (x2 rfl rfl rfl rfl (mul_ok (by omega) (by omega))) (x2 (x1 rfl rfl rfl) rfl rfl rfl (mod_ok (by decide))) rfl rfl rfl) rfl rfl rfl rfl) rfl rfl) rfl rfl rfl (mod_ok (by decide))) rfl) rfl
def bHeap (s0 m a : Int) : List S := [
  .par [(false, 2), (false, 3)] [(.lc (.op2 .add (.op2 .mul (.cst (.int 2)) (.op1 .abs (.view 1))) (.op1 .int (.op2 .lt (.view 1) (.cst (.int 0))))) (.name 1) (.op2 .sto (.view 0) (.cst (.int 60))) []), (.cst (.int s0))],
  .for (.name 1) (.peek 2) [.asg (.name 3) (.op2 .mod (.op1 .int (.op2 .add (.op2 .add (.op2 .mul (.view 3) (.cst (.int m))) (.op2 .mod (.op1 .int (.view 1)) (.cst (.int 2147483563)))) (.cst (.int a)))) (.cst (.int 2147483647)))],
  .ret (.cell (.lst [(.cell (.op1 .rev (.lc (.var 1) (.name 1) (.view 2) [(.op2 .ge (.view 1) (.op2 .pow (.cst (.int 10)) (.cst (.int 18))))]))), (.var 3)]))]
def fHeap (s0 m a : Int) : Fn := ⟨4, [true], bHeap s0 m a⟩
theorem heap_run (s0 m a : Int) (hs0 : 0 ≤ s0 ∧ s0 < 2147483647) (hm : 0 ≤ m ∧ m < 2 ^ 62) (ns : List Int) : ∃ h, evFn reprL Γ (fHeap s0 m a) [.lst (ns.map D.int)] [] = some (.ok (.ref 1) h) ∧ Box h := by
  generalize hc : cut ns none (some 60) = cs
  have hl : cs.length ≤ 60 := hc ▸ cut60 ns
  generalize hd : (cs.flatMap fun c : Int => [2 * (if c < 0 then -c else c) + (if c < 0 then 1 else 0)]) = ds
  have hdl : ds.length ≤ 60 := by
    rw [← hd, flat1_len]
    exact hl
  have hcell : evE reprL Γ (.lc (.op2 .add (.op2 .mul (.cst (.int 2)) (.op1 .abs (.view 1))) (.op1 .int (.op2 .lt (.view 1) (.cst (.int 0))))) (.name 1) (.op2 .sto (.view 0) (.cst (.int 60))) []) [.bor (.lst (ns.map D.int)), .none, .none, .none] [] = some (.ok (.lst (ds.map D.int)) []) := by
    refine run_lc (s := .lst (cs.map D.int)) (xs := cs.map D.int) (x2 rfl rfl rfl rfl ?_) rfl ?_
    · show some (D.lst (cut (ns.map D.int) none (some 60))) = _
      rw [cut_map, hc]
    · rw [← hd]
      refine comp_ints fun c _ => turn_elt rfl rfl ?_
      have m := mulOk_left (a := 2) (b := if c < 0 then -c else c) (by decide)
      have e : (if decide (c < 0) = true then (1 : Int) else 0) = if c < 0 then 1 else 0 := by simp
      have r := x2 (Γ := Γ) (o := .add) (env := [.bor (.lst (ns.map D.int)), .val (.int c), .none, .none]) (h := []) (x2 (o := .mul) (d := .int (2 * (if c < 0 then -c else c))) (a := .cst (.int 2)) rfl (x1 (o := .abs) (a := .view 1) rfl rfl rfl) rfl rfl (mul_of m)) (x1 (o := .int) (x2 (o := .lt) (a := .view 1) (b := .cst (.int 0)) rfl rfl rfl rfl rfl) rfl rfl) rfl rfl rfl
      rw [e] at r
      exact r
  obtain ⟨s', x', k, k1, k2, k3⟩ := stir_ok (Γ := Γ) m a hm (e0 := .bor (.lst (ns.map D.int))) (cells := .lst (ds.map D.int)) (h := []) ds s0 .none hs0 rfl
  generalize hb : (ds.flatMap fun c : Int => if 1000000000000000000 ≤ c then [c] else []) = bs
  have hbl : bs.length ≤ 60 := by
    refine Nat.le_trans ?_ hdl
    rw [← hb]
    clear hb hcell k hd hdl
    induction ds with
    | nil => exact Nat.le_refl _
    | cons d ds ih =>
      rw [List.flatMap_cons, List.length_append, List.length_cons]
      split
      · simp only [List.length_cons, List.length_nil]
        omega
      · simp only [List.length_nil]
        omega
  have hlast : evE reprL Γ (.lc (.var 1) (.name 1) (.view 2) [(.op2 .ge (.view 1) (.op2 .pow (.cst (.int 10)) (.cst (.int 18))))]) [.bor (.lst (ns.map D.int)), x', .val (.lst (ds.map D.int)), .val (.int s')] [] = some (.ok (.lst (bs.map D.int)) []) := by
    refine run_lc (s := .lst (ds.map D.int)) (xs := ds.map D.int) rfl rfl ?_
    rw [← hb]
    refine comp_ints fun c _ => ?_
    have hcl : clear [.bor (.lst (ns.map D.int)), x', .val (.lst (ds.map D.int)), .val (.int s')] [1] = some [.bor (.lst (ns.map D.int)), .none, .val (.lst (ds.map D.int)), .val (.int s')] := by
      show (if Ev.isOwnSl (some x') = true then none else _) = _
      rw [k3]
      rfl
    have hge := x2 (Γ := Γ) (o := .ge) (env := [.bor (.lst (ns.map D.int)), .val (.int c), .val (.lst (ds.map D.int)), .val (.int s')]) (h := []) (a := .view 1) (b := .op2 .pow (.cst (.int 10)) (.cst (.int 18))) (x := .int c) (y := .int 1000000000000000000) rfl rfl rfl rfl rfl
    by_cases z : 1000000000000000000 ≤ c
    · rw [if_pos z]
      exact turn_T (env2 := [.bor (.lst (ns.map D.int)), .val (.int c), .val (.lst (ds.map D.int)), .val (.int s')]) hcl rfl (by rw [hge, decide_eq_true z]) rfl
    · rw [if_neg z]
      exact turn_F (env2 := [.bor (.lst (ns.map D.int)), .val (.int c), .val (.lst (ds.map D.int)), .val (.int s')]) hcl rfl (by rw [hge, decide_eq_false z])
  refine ⟨box bs.reverse s', fn_ret rfl ?_, _, _, rfl, k1, k2, by rw [List.length_reverse]; exact hbl⟩
  refine run_cons (run_par (xs_cons hcell (xs_cons rfl xs_nil)) rfl) (run_cons (run_for (h' := []) rfl rfl k) (run_ret (run_retE ?_)))
  have hrev := x1 (o := .rev) hlast rfl rfl
  show R.bind (R.bind (R.bind (R.bind (evE reprL _ (.op1 .rev _) _ []) _) _) _) _ = _
  rw [hrev]
  show some (Out.ok (D.ref 1) [(bs.map D.int).reverse, [D.ref 0, D.int s']]) = _
  rw [← List.map_reverse]
  rfl
end
/-- a number below many is drawn -/
theorem draw_nat (m a : Int) (hm : 0 ≤ m ∧ m < 2 ^ 62) {Γ : Nat → List D → Ev.Heap → R D} {h : Ev.Heap} (hb : Box h) (many : Nat) (h1 : 0 < many) (h2 : many < 2 ^ 62) : ∃ (r : Nat) (h' : Ev.Heap), evFn reprL Γ (fDraw m a) [.ref 1, .int many] h = some (.ok (.int r) h') ∧ Box h' ∧ r < many := by
  obtain ⟨cs, s, rfl, q1, q2, q3⟩ := hb
  obtain ⟨r, h', e, hb', r1, r2⟩ := draw_run (Γ := Γ) m a hm cs s many (by omega) (by omega) ⟨q1, q2⟩ q3
  exact ⟨r.toNat, h', by rw [e, Int.toNat_of_nonneg r1], hb', by omega⟩
end Dr
end

section
set_option Elab.async false
set_option linter.all false
set_option maxRecDepth 100000
namespace K06
open PySem L2 Ev
section
variable {Γ : Nat → List D → Ev.Heap → R D} {h : Ev.Heap}
abbrev cond0 : E := .and (.op2 .lt (.view 1) (.op1 .len (.view 0))) (.op2 .inn (.op2 .ix (.view 0) (.view 1)) (.view 2))
abbrev body0 : List S := [.asg (.name 1) (.op2 .add (.view 1) (.cst (.int 1)))]
theorem run_loop (A l : List Nat) (hl : l.length ≤ LIM) : ∀ (r pre : List Nat), l = pre ++ r → loopW (whileTurn Γ cond0 body0) [.val (tx l), .val (nn pre.length), .val (tx A)] h = some (.ok (.nx [.val (tx l), .val (nn (pre.length + (r.takeWhile fun c => decide (c ∈ A)).length)), .val (tx A)]) h)
  | [], pre, e => by
    · have := x2 (Γ := Γ) (o := .lt) (a := .view 1) (b := .op1 .len (.view 0)) (env := [.val (tx l), .val (nn pre.length), .val (tx A)]) (h := h) rfl (x1 rfl rfl (len_tx hl)) rfl rfl (lt_nn _ _)
      rw [decide_eq_false (by rw [e]; simp)] at this
      exact while_F (h' := h) (xandF this)
  | c :: r, pre, e => by
    have t1 := x2 (Γ := Γ) (o := .lt) (a := .view 1) (b := .op1 .len (.view 0)) (env := [.val (tx l), .val (nn pre.length), .val (tx A)]) (h := h) rfl (x1 rfl rfl (len_tx hl)) rfl rfl (lt_nn _ _)
    rw [decide_eq_true (by rw [e]; simp)] at t1
    have hc : l[pre.length]? = some c := by rw [e]; simp
    have t2 := x2 (Γ := Γ) (o := .inn) (b := .view 2) (x2 (Γ := Γ) (o := .ix) (a := .view 0) (b := .view 1) (env := [.val (tx l), .val (nn pre.length), .val (tx A)]) (h := h) rfl rfl rfl rfl (ix_tx hl hc)) rfl rfl rfl (in_tx c A)
    by_cases hA : c ∈ A
    · rw [decide_eq_true hA] at t2
      have ih := run_loop A l hl r (pre ++ [c]) (by rw [e]; simp)
      have en : (pre ++ [c]).length = pre.length + 1 := by simp
      rw [en] at ih
      refine while_T (xandT t1 t2) (run_cons (run_asg (env' := [.val (tx l), .val (nn (pre.length + 1)), .val (tx A)]) (x2 (x := nn pre.length) rfl rfl rfl rfl rfl) rfl) run_nil) (ih.trans ?_)
      rw [List.takeWhile_cons, if_pos (decide_eq_true hA), List.length_cons, Nat.add_assoc, Nat.add_comm 1]
    · rw [decide_eq_false hA] at t2
      refine (while_F (xandT t1 t2)).trans ?_
      rw [List.takeWhile_cons, if_neg (by rw [decide_eq_false hA]; decide)]
      rfl
theorem G0_ok (A pre r : List Nat) (hl : (pre ++ r).length ≤ LIM) : G0 [tx (pre ++ r), nn pre.length, tx A] h = some (.ok (nn (pre.length + (r.takeWhile fun c => decide (c ∈ A)).length)) h) :=
  fn_ret rfl (run_cons (run_loop A _ hl r pre rfl) (run_ret rfl))
/-! the sets of signs -/
def abc : List Nat := ("abcdefghijklmnopqrstuvwxyz" : Str).cps.toList
def dig : List Nat := ("0123456789" : Str).cps.toList
theorem abc_eq : abc = [97, 98, 99, 100, 101, 102, 103, 104, 105, 106, 107, 108, 109, 110, 111, 112, 113, 114, 115, 116, 117, 118, 119, 120, 121, 122] := by decide +kernel
theorem dig_eq : dig = [48, 49, 50, 51, 52, 53, 54, 55, 56, 57] := by decide +kernel
theorem kd_1 (c : Nat) : kd c = 1 ↔ 97 ≤ c ∧ c ≤ 122 := by
  unfold kd
  constructor
  · intro h
    by_cases z : 97 ≤ c ∧ c ≤ 122
    · exact z
    · rw [if_neg z] at h
      split at h <;> omega
  · exact fun z => if_pos z
theorem kd_2 (c : Nat) : kd c = 2 ↔ 48 ≤ c ∧ c ≤ 57 := by
  unfold kd
  constructor
  · intro h
    by_cases z : 97 ≤ c ∧ c ≤ 122
    · rw [if_pos z] at h
      omega
    · rw [if_neg z] at h
      by_cases z2 : 48 ≤ c ∧ c ≤ 57
      · exact z2
      · rw [if_neg z2] at h
        omega
  · intro z
    rw [if_neg (by omega), if_pos z]
theorem in_abc (c : Nat) : c ∈ abc ↔ kd c = 1 := by
  rw [abc_eq, kd_1]
  simp only [List.mem_cons, List.not_mem_nil, or_false]
  omega
theorem in_dig (c : Nat) : c ∈ dig ↔ kd c = 2 := by
  rw [dig_eq, kd_2]
  simp only [List.mem_cons, List.not_mem_nil, or_false]
  omega
theorem kd_lt (c : Nat) : kd c < 3 := by
  unfold kd
  split
  · decide
  · split <;> decide
end
end K06
end

section
set_option Elab.async false
set_option linter.all false
set_option maxRecDepth 100000
namespace K06
open PySem L2 Ev
section
variable {h : Ev.Heap}
theorem abc_tx : D.str "abcdefghijklmnopqrstuvwxyz" = tx abc := rfl
theorem dig_tx : D.str "0123456789" = tx dig := rfl
theorem cls_1 {c : Nat} (hk : kd c = 1) : (fun x => decide (x ∈ abc)) = same c := funext fun x => by
  show _ = (kd x == kd c)
  rw [hk]
  by_cases z : kd x = 1
  · rw [decide_eq_true ((in_abc x).mpr z), z]
    rfl
  · rw [decide_eq_false fun q => z ((in_abc x).mp q)]
    exact (beq_eq_false_iff_ne.mpr z).symm
theorem cls_2 {c : Nat} (hk : kd c = 2) : (fun x => decide (x ∈ dig)) = same c := funext fun x => by
  show _ = (kd x == kd c)
  rw [hk]
  by_cases z : kd x = 2
  · rw [decide_eq_true ((in_dig x).mpr z), z]
    rfl
  · rw [decide_eq_false fun q => z ((in_dig x).mp q)]
    exact (beq_eq_false_iff_ne.mpr z).symm
theorem piece {p : Nat → Bool} {l pre r : List Nat} {c : Nat} (e : l = pre ++ c :: r) (hl : l.length ≤ LIM) (hp : p = same c) (hk : 0 < kd c) :
    o3 .slice (tx l) (nn pre.length) (nn (pre.length + ((c :: r).takeWhile p).length)) = some (tx (mk c r)) := by
  have h1 : pre.length ≤ l.length := by rw [e]; simp
  have h2 : pre.length + ((c :: r).takeWhile p).length ≤ l.length := by
    have := tw_le p (c :: r)
    rw [e, List.length_append]
    omega
  rw [slice_tx hl h1 h2, e, List.drop_left, Nat.add_sub_cancel_left, tw_take, hp, List.takeWhile_cons, if_pos (beq_self_eq_true _)]
  unfold mk
  rw [if_neg (by omega)]
theorem G1_ok {l : List Nat} (pre : List Nat) (c : Nat) (r : List Nat) (e : l = pre ++ c :: r) (hl : l.length ≤ LIM) : G1 [tx l, nn pre.length] h = some (.ok (tx (mk c r)) h) := by
  have hc : l[pre.length]? = some c := by rw [e]; simp
  have hix : evE reprL (tab [G0]) (.op2 .ix (.view 0) (.view 1)) [.val (tx l), .val (nn pre.length)] h = some (.ok (tx [c]) h) := x2 (x := tx l) (y := nn pre.length) rfl rfl rfl rfl (ix_tx hl hc)
  have t1 : evE reprL (tab [G0]) (.op2 .inn (.op2 .ix (.view 0) (.view 1)) (.cst (.str "abcdefghijklmnopqrstuvwxyz"))) [.val (tx l), .val (nn pre.length)] h = some (.ok (.bl (decide (c ∈ abc))) h) := x2 (x := tx [c]) (y := tx abc) hix rfl rfl rfl (in_tx c abc)
  have t2 : evE reprL (tab [G0]) (.op2 .inn (.op2 .ix (.view 0) (.view 1)) (.cst (.str "0123456789"))) [.val (tx l), .val (nn pre.length)] h = some (.ok (.bl (decide (c ∈ dig))) h) := x2 (x := tx [c]) (y := tx dig) hix rfl rfl rfl (in_tx c dig)
  have g : ∀ A : List Nat, G0 [tx l, nn pre.length, tx A] h = some (.ok (nn (pre.length + ((c :: r).takeWhile fun c => decide (c ∈ A)).length)) h) := fun A => by
    rw [e] at hl ⊢
    exact G0_ok A pre (c :: r) hl
  by_cases k1 : kd c = 1
  · rw [decide_eq_true ((in_abc c).mpr k1)] at t1
    refine fn_ret rfl (run_ret (run_ifT t1 (run_ret (run_retE ?_))))
    exact x3 (x := tx l) (y := nn pre.length) rfl rfl (xcall (ds := [tx l, nn pre.length, tx abc]) (xs_cons rfl (xs_cons rfl (xs_cons rfl xs_nil))) (g abc)) rfl (piece e hl (cls_1 k1) (by omega))
  · rw [decide_eq_false fun z => k1 ((in_abc c).mp z)] at t1
    refine fn_ret rfl (run_cons (run_ifF t1 run_nil) (run_ret (run_retE ?_)))
    by_cases k2 : kd c = 2
    · rw [decide_eq_true ((in_dig c).mpr k2)] at t2
      refine xiteT t2 ?_
      exact x3 (x := tx l) (y := nn pre.length) rfl rfl (xcall (ds := [tx l, nn pre.length, tx dig]) (xs_cons rfl (xs_cons rfl (xs_cons rfl xs_nil))) (g dig)) rfl (piece e hl (cls_2 k2) (by omega))
    · rw [decide_eq_false fun z => k2 ((in_dig c).mp z)] at t2
      refine xiteF t2 ?_
      have hm : mk c r = [c] := if_pos (by have := kd_lt c; omega)
      rw [hm]
      exact hix
/-! ### marks_of -/
def mD (m : Mk) : D := .tup [nn m.1, nn m.2.1, tx m.2.2]
abbrev cond2 : E := .op2 .lt (.view 4) (.op1 .len (.view 0))
abbrev body2 : List S := [.asg (.name 5) (.call 1 [(.var 0), (.var 4)]), .ifs (.op2 .ne (.view 5) (.cst (.str " "))) [.app 1 (.tup [(.var 2), (.op2 .sub (.view 4) (.view 3)), (.var 5)])] [], .asg (.name 4) (.op2 .add (.view 4) (.op1 .len (.view 5))), .ifs (.op2 .eq (.view 5) (.cst (.str "\n"))) [.par [(false, 2), (false, 3)] [(.op2 .add (.view 2) (.cst (.int 1))), (.var 4)]] []]
abbrev en2 (l : List Nat) (fs : List D) (ln sta at' : Nat) (x : Sl) : Ev.Env := [.val (tx l), .own (.lst fs), .val (nn ln), .val (nn sta), .val (nn at'), x]
theorem app_lt {xs : List D} {n : Nat} (h : xs.length + n ≤ LIM) (hn : 0 < n) : xs.length < LIM := by omega
theorem turn2 {l : List Nat} (hl : l.length ≤ LIM) {pre r : List Nat} {c : Nat} (e : l = pre ++ c :: r) (fs : List D) (ln sta : Nat) (x : Sl) (hs : sta ≤ pre.length) (hfs : fs.length < LIM) (hx : Ev.isOwnSl (some x) = false) :
    evSs reprL (tab [G0, G1]) body2 (en2 l fs ln sta pre.length x) h = some (.ok (.nx (en2 l (fs ++ (if mk c r = [32] then [] else [mD (ln, pre.length - sta, mk c r)])) (if mk c r = [10] then ln + 1 else ln) (if mk c r = [10] then pre.length + (mk c r).length else sta) (pre.length + (mk c r).length) (.val (tx (mk c r))))) h) := by
  have hml := mk_len c r
  have hm : (mk c r).length ≤ LIM := by
    rw [e, List.length_append, List.length_cons] at hl
    omega
  generalize hmk : mk c r = m at hm hml ⊢
  have a1 : evS reprL (tab [G0, G1]) (.asg (.name 5) (.call 1 [(.var 0), (.var 4)])) (en2 l fs ln sta pre.length x) h = some (.ok (.nx (en2 l fs ln sta pre.length (.val (tx m)))) h) := by
    refine run_asg (d := tx m) (xcall (ds := [tx l, nn pre.length]) (xs_cons rfl (xs_cons rfl xs_nil)) (by rw [← hmk]; exact G1_ok pre c r e hl)) ?_
    show (if Ev.isOwnSl (some x) = true then none else _) = _
    rw [hx]
    rfl
  refine run_cons a1 ?_
  have n1 : evE reprL (tab [G0, G1]) (.op2 .ne (.view 5) (.cst (.str " "))) (en2 l fs ln sta pre.length (.val (tx m))) h = some (.ok (.bl (!decide (m = [32]))) h) := x2 (x := tx m) (y := tx [32]) rfl rfl rfl rfl (ne_tx m [32])
  have hsub : o2 .sub (nn pre.length) (nn sta) = some (nn (pre.length - sta)) := by
    show some (D.int ((pre.length : Int) - (sta : Int))) = _
    rw [← Int.ofNat_sub hs]
    rfl
  have a2 : evS reprL (tab [G0, G1]) (.ifs (.op2 .ne (.view 5) (.cst (.str " "))) [.app 1 (.tup [(.var 2), (.op2 .sub (.view 4) (.view 3)), (.var 5)])] []) (en2 l fs ln sta pre.length (.val (tx m))) h = some (.ok (.nx (en2 l (fs ++ (if m = [32] then [] else [mD (ln, pre.length - sta, m)])) ln sta pre.length (.val (tx m)))) h) := by
    by_cases z : m = [32]
    · rw [decide_eq_true z] at n1
      rw [if_pos z, List.append_nil]
      exact run_ifF n1 run_nil
    · rw [decide_eq_false z] at n1
      rw [if_neg z]
      refine run_ifT n1 (run_cons (env' := en2 l (fs ++ [mD (ln, pre.length - sta, m)]) ln sta pre.length (.val (tx m))) ?_ run_nil)
      have et : evE reprL (tab [G0, G1]) (.tup [(.var 2), (.op2 .sub (.view 4) (.view 3)), (.var 5)]) (en2 l fs ln sta pre.length (.val (tx m))) h = some (.ok (mD (ln, pre.length - sta, m)) h) := xtup (xs_cons rfl (xs_cons (x2 (x := nn pre.length) (y := nn sta) rfl rfl rfl rfl hsub) (xs_cons rfl xs_nil)))
      exact run_app et rfl hfs
  refine run_cons a2 ?_
  generalize (fs ++ (if m = [32] then [] else [mD (ln, pre.length - sta, m)])) = fs'
  have a3 : evS reprL (tab [G0, G1]) (.asg (.name 4) (.op2 .add (.view 4) (.op1 .len (.view 5)))) (en2 l fs' ln sta pre.length (.val (tx m))) h = some (.ok (.nx (en2 l fs' ln sta (pre.length + m.length) (.val (tx m)))) h) := run_asg (d := nn (pre.length + m.length)) (x2 (x := nn pre.length) (y := nn m.length) rfl (x1 rfl rfl (len_tx hm)) rfl rfl rfl) rfl
  refine run_cons a3 (run_cons ?_ run_nil)
  have n2 : evE reprL (tab [G0, G1]) (.op2 .eq (.view 5) (.cst (.str "\n"))) (en2 l fs' ln sta (pre.length + m.length) (.val (tx m))) h = some (.ok (.bl (decide (m = [10]))) h) := x2 (x := tx m) (y := tx [10]) rfl rfl rfl rfl (eq_tx m [10])
  by_cases z : m = [10]
  · rw [decide_eq_true z] at n2
    rw [if_pos z, if_pos z]
    exact run_ifT n2 (run_cons (run_par (ds := [nn (ln + 1), nn (pre.length + m.length)]) (xs_cons (x2 (x := nn ln) rfl rfl rfl rfl rfl) (xs_cons rfl xs_nil)) rfl) run_nil)
  · rw [decide_eq_false z] at n2
    rw [if_neg z, if_neg z]
    exact run_ifF n2 run_nil
end
end K06
end

section
set_option Elab.async false
set_option linter.all false
set_option maxRecDepth 100000
namespace K06
open PySem L2 Ev
section
variable {h : Ev.Heap}
theorem loop2 {l : List Nat} (hl : l.length ≤ LIM) : ∀ (n : Nat) (r pre : List Nat) (fs : List D) (ln sta : Nat) (x : Sl), r.length ≤ n → l = pre ++ r → sta ≤ pre.length → fs.length + r.length < LIM → Ev.isOwnSl (some x) = false →
    ∃ (ln' sta' at' : Nat) (x' : Sl), loopW (whileTurn (tab [G0, G1]) cond2 body2) (en2 l fs ln sta pre.length x) h = some (.ok (.nx (en2 l (fs ++ (F ln (pre.length - sta) r).map mD) ln' sta' at' x')) h)
  | n, [], pre, fs, ln, sta, x, _, e, hs, hf, hx => by
    refine ⟨ln, sta, pre.length, x, ?_⟩
    have t1 := x2 (Γ := tab [G0, G1]) (o := .lt) (a := .view 4) (b := .op1 .len (.view 0)) (env := en2 l fs ln sta pre.length x) (h := h) rfl (x1 rfl rfl (len_tx hl)) rfl rfl (lt_nn _ _)
    rw [decide_eq_false (by rw [e]; simp)] at t1
    rw [F_nil, List.map_nil, List.append_nil]
    exact while_F t1
  | 0, c :: r, _, _, _, _, _, hn, _, _, _, _ => by simp at hn
  | n + 1, c :: r, pre, fs, ln, sta, x, hn, e, hs, hf, hx => by
    have t1 := x2 (Γ := tab [G0, G1]) (o := .lt) (a := .view 4) (b := .op1 .len (.view 0)) (env := en2 l fs ln sta pre.length x) (h := h) rfl (x1 rfl rfl (len_tx hl)) rfl rfl (lt_nn _ _)
    rw [decide_eq_true (by rw [e]; simp)] at t1
    have tt := turn2 (h := h) hl e fs ln sta x hs (by omega) hx
    have hml := mk_len c r
    have hmp := mk_pos c r
    have e' : l = (pre ++ mk c r) ++ rest c r := by rw [e, List.append_assoc, ← mk_app]
    have el : (pre ++ mk c r).length = pre.length + (mk c r).length := List.length_append
    rw [List.length_cons] at hn hf
    have hfl : (fs ++ (if mk c r = [32] then [] else [mD (ln, pre.length - sta, mk c r)])).length ≤ fs.length + 1 := by
      rw [List.length_append]
      split <;> simp
    obtain ⟨ln', sta', at', x', k⟩ := loop2 hl n (rest c r) (pre ++ mk c r) (fs ++ (if mk c r = [32] then [] else [mD (ln, pre.length - sta, mk c r)])) (if mk c r = [10] then ln + 1 else ln) (if mk c r = [10] then pre.length + (mk c r).length else sta) (.val (tx (mk c r)))
      (by omega) e' (by rw [el]; split <;> omega) (by omega) rfl
    refine ⟨ln', sta', at', x', while_T t1 tt ?_⟩
    rw [el] at k
    rw [k, F_cons, List.map_append, ← List.append_assoc]
    congr 6
    · split <;> rfl
    · by_cases z : mk c r = [10]
      · rw [if_pos z, if_pos z, if_pos z, Nat.sub_self]
      · rw [if_neg z, if_neg z, if_neg z]
        rw [Nat.sub_add_comm hs]
theorem G2_ok {l : List Nat} (hl : l.length < LIM) : G2 [tx l] h = some (.ok (.tup ((F 0 0 l).map mD)) h) := by
  obtain ⟨ln', sta', at', x', k⟩ := loop2 (h := h) (Nat.le_of_lt hl) l.length l [] [] 0 0 .none (Nat.le_refl _) rfl (Nat.le_refl _) (by rw [List.length_nil]; omega) rfl
  have a1 : evS reprL (tab [G0, G1]) (.par [(true, 1), (false, 2), (false, 3), (false, 4)] [(.lst []), (.cst (.int 0)), (.cst (.int 0)), (.cst (.int 0))]) [.val (tx l), .none, .none, .none, .none, .none] h = some (.ok (.nx (en2 l [] 0 0 0 .none)) h) := rfl
  exact fn_ret (f := f2) rfl (run_cons a1 (run_cons k (run_ret (run_retE (x1 (x := .lst ((F 0 0 l).map mD)) rfl rfl rfl)))))
end
end K06
end

section
set_option Elab.async false
set_option linter.all false
set_option maxRecDepth 100000
namespace K06
open PySem L2 Ev
section
variable {h : Ev.Heap}
theorem xchainT {Γ : Nat → List D → Ev.Heap → R D} {env : Ev.Env} {h h1 h2 h3 : Ev.Heap} {a b c : E} {o p : Op2} {x y z d : D} (ea : evE reprL Γ a env h = some (.ok x h1)) (eb : evE reprL Γ b env h1 = some (.ok y h2)) (ho : o2 o x y = some (.bl true)) (ec : evE reprL Γ c env h2 = some (.ok z h3)) (hp : o2 p y z = some d) : evE reprL Γ (.chain o p a b c) env h = some (.ok d h3) := by
  show R.bind (evE reprL Γ a env h) _ = _
  rw [ea]
  show R.bind (evE reprL Γ b env h1) _ = _
  rw [eb]
  show R.bind (lift h2 (o2 o x y)) _ = _
  rw [ho]
  show R.bind (evE reprL Γ c env h2) _ = _
  rw [ec]
  show lift h3 (o2 p y z) = _
  rw [hp]
  rfl
theorem xchainF {Γ : Nat → List D → Ev.Heap → R D} {env : Ev.Env} {h h1 h2 : Ev.Heap} {a b c : E} {o p : Op2} {x y : D} (ea : evE reprL Γ a env h = some (.ok x h1)) (eb : evE reprL Γ b env h1 = some (.ok y h2)) (ho : o2 o x y = some (.bl false)) : evE reprL Γ (.chain o p a b c) env h = some (.ok (.bl false) h2) := by
  show R.bind (evE reprL Γ a env h) _ = _
  rw [ea]
  show R.bind (evE reprL Γ b env h1) _ = _
  rw [eb]
  show R.bind (lift h2 (o2 o x y)) _ = _
  rw [ho]
  rfl
theorem between {Γ : Nat → List D → Ev.Heap → R D} {env : Ev.Env} {a b c : E} {i j k : Nat} (ea : evE reprL Γ a env h = some (.ok (tx [i]) h)) (eb : evE reprL Γ b env h = some (.ok (tx [j]) h)) (ec : evE reprL Γ c env h = some (.ok (tx [k]) h)) : evE reprL Γ (.chain .le .le a b c) env h = some (.ok (.bl (decide (i ≤ j ∧ j ≤ k))) h) := by
  have l1 := le_one i j
  have l2 := le_one j k
  by_cases z : i ≤ j
  · rw [decide_eq_true z] at l1
    have := xchainT (p := .le) ea eb l1 ec l2
    rw [this]
    congr 3
    exact decide_eq_decide.mpr ⟨fun q => ⟨z, q⟩, fun q => q.2⟩
  · rw [decide_eq_false z] at l1
    rw [xchainF ea eb l1, decide_eq_false fun q => z q.1]
theorem G6_ok (c : Nat) : G6 [tx [c]] h = some (.ok (nn (kd c)) h) := by
  have t1 := between (Γ := tab [G0, G1, G2, G3, G4, G5]) (env := [.val (tx [c])]) (h := h) (a := .cst (.str "a")) (b := .view 0) (c := .cst (.str "z")) (i := 97) (j := c) (k := 122) rfl rfl rfl
  have t2 := between (Γ := tab [G0, G1, G2, G3, G4, G5]) (env := [.val (tx [c])]) (h := h) (a := .cst (.str "0")) (b := .view 0) (c := .cst (.str "9")) (i := 48) (j := c) (k := 57) rfl rfl rfl
  unfold kd
  by_cases z : 97 ≤ c ∧ c ≤ 122
  · rw [decide_eq_true z] at t1
    rw [if_pos z]
    exact fn_ret (f := f6) rfl (run_ret (run_ifT t1 (run_ret rfl)))
  · rw [decide_eq_false z] at t1
    rw [if_neg z]
    refine fn_ret (f := f6) rfl (run_cons (run_ifF t1 run_nil) (run_ret (run_retE ?_)))
    by_cases z2 : 48 ≤ c ∧ c ≤ 57
    · rw [decide_eq_true z2] at t2
      rw [if_pos z2]
      exact xiteT t2 rfl
    · rw [decide_eq_false z2] at t2
      rw [if_neg z2]
      exact xiteF t2 rfl
/-! ### _law_marks -/
def qD (q : Q) : D := .tup [nn q.1, nn q.2.1, tx q.2.2.1, nn q.2.2.2]
abbrev Γ7 : Nat → List D → Ev.Heap → R D := tab [G0, G1, G2, G3, G4, G5, G6]
abbrev en7 (l : List Nat) (x : Sl) (fs : List Q) (ln at' : Nat) (k y : Sl) : Ev.Env := [.val (tx l), x, .own (.lst (fs.map qD)), .val (nn ln), .val (nn at'), k, y]
abbrev last7 : E := .op2 .ix (.view 2) (.op1 .neg (.cst (.int 1)))
abbrev ext7 : E := .and (.op2 .gt (.view 5) (.cst (.int 0))) (.and (.op2 .ne (.view 2) (.lst [])) (.and (.op2 .eq (.op2 .ix last7 (.cst (.int 3))) (.view 5)) (.op2 .eq (.op2 .sto last7 (.cst (.int 2))) (.tup [(.var 3), (.op2 .sub (.view 4) (.op1 .len (.op2 .ix last7 (.cst (.int 2)))))]))))
theorem plains_q : ∀ fs : List Q, D.plains (fs.map qD) = true
  | [] => rfl
  | _ :: fs => plains_q fs
theorem last_ok {l : List Nat} {x k y : Sl} {gs : List Q} {q : Q} {ln at' : Nat} : evE reprL Γ7 last7 (en7 l x (gs ++ [q]) ln at' k y) h = some (.ok (qD q) h) := by
  refine x2 (x := .lst ((gs ++ [q]).map qD)) (y := .int (-1)) rfl rfl rfl rfl ?_
  show Ev.atI ((gs ++ [q]).map qD) (-1) = _
  rw [List.map_append]
  exact atI_last
theorem ext_ok {l : List Nat} {x y : Sl} {fs : List Q} {ln at' c : Nat} (hb : ∀ q ∈ fs, q.2.2.1.length ≤ LIM) : evE reprL Γ7 ext7 (en7 l x fs ln at' (.val (nn (kd c))) y) h = some (.ok (.bl (ext ln at' c fs.getLast?)) h) := by
  have t1 : evE reprL Γ7 (.op2 .gt (.view 5) (.cst (.int 0))) (en7 l x fs ln at' (.val (nn (kd c))) y) h = some (.ok (.bl (decide (0 < kd c))) h) := x2 (x := nn (kd c)) (y := nn 0) rfl rfl rfl rfl (gt_nn _ _)
  have t2 : evE reprL Γ7 (.op2 .ne (.view 2) (.lst [])) (en7 l x fs ln at' (.val (nn (kd c))) y) h = some (.ok (.bl (!(fs.map qD).isEmpty)) h) := x2 (x := .lst (fs.map qD)) (y := .lst []) rfl rfl rfl rfl (ne_nilD (plains_q fs))
  by_cases z : 0 < kd c
  · rw [decide_eq_true z] at t1
    refine xandT t1 ?_
    by_cases e : fs = []
    · subst e
      exact xandF t2
    · obtain ⟨gs, q, rfl⟩ := split_last e
      have : ((gs ++ [q]).map qD).isEmpty = false := by simp
      rw [this] at t2
      refine xandT t2 ?_
      obtain ⟨l', a, t, k⟩ := q
      have hL := last_ok (h := h) (l := l) (x := x) (k := .val (nn (kd c))) (y := y) (gs := gs) (q := (l', a, t, k)) (ln := ln) (at' := at')
      have t3 : evE reprL Γ7 (.op2 .eq (.op2 .ix last7 (.cst (.int 3))) (.view 5)) (en7 l x (gs ++ [(l', a, t, k)]) ln at' (.val (nn (kd c))) y) h = some (.ok (.bl (decide (k = kd c))) h) := x2 (x := nn k) (y := nn (kd c)) (x2 (x := qD (l', a, t, k)) (y := .int 3) hL rfl rfl rfl rfl) rfl rfl rfl (eq_nn _ _)
      have t4 : evE reprL Γ7 (.op2 .eq (.op2 .sto last7 (.cst (.int 2))) (.tup [(.var 3), (.op2 .sub (.view 4) (.op1 .len (.op2 .ix last7 (.cst (.int 2)))))])) (en7 l x (gs ++ [(l', a, t, k)]) ln at' (.val (nn (kd c))) y) h = some (.ok (.bl (decide (l' = ln) && decide (a + t.length = at'))) h) := by
        refine x2 (x := .tup [nn l', nn a]) (y := .tup [nn ln, .int ((at' : Int) - (t.length : Int))]) (x2 (x := qD (l', a, t, k)) (y := .int 2) hL rfl rfl rfl rfl) (xtup (xs_cons rfl (xs_cons (x2 (x := nn at') (y := nn t.length) rfl (x1 (x := tx t) (x2 (x := qD (l', a, t, k)) (y := .int 2) hL rfl rfl rfl rfl) rfl (len_tx (hb (l', a, t, k) (by simp)))) rfl rfl rfl) xs_nil))) rfl rfl ?_
        show some (D.bl (((l' : Int) == (ln : Int)) && (((a : Int) == (at' : Int) - (t.length : Int)) && true))) = _
        congr 2
        rw [Bool.and_true]
        congr 1
        · by_cases e : l' = ln
          · rw [e, decide_eq_true rfl]
            exact beq_self_eq_true _
          · rw [decide_eq_false e]
            exact beq_eq_false_iff_ne.mpr fun z => e (by omega)
        · by_cases e : a + t.length = at'
          · rw [decide_eq_true e]
            exact beq_iff_eq.mpr (by omega)
          · rw [decide_eq_false e]
            exact beq_eq_false_iff_ne.mpr fun z => e (by omega)
      rw [List.getLast?_concat]
      show _ = some (Out.ok (D.bl (decide (0 < kd c) && decide (k = kd c) && decide (l' = ln) && decide (a + t.length = at'))) h)
      rw [decide_eq_true z, Bool.true_and, Bool.and_assoc]
      by_cases e3 : k = kd c
      · rw [decide_eq_true e3] at t3 ⊢
        rw [Bool.true_and]
        exact xandT t3 t4
      · rw [decide_eq_false e3] at t3 ⊢
        rw [Bool.false_and]
        exact xandF t3
  · rw [decide_eq_false z] at t1
    rw [xandF t1]
    have : ext ln at' c fs.getLast? = false := by
      cases fs.getLast? with
      | none => rfl
      | some q =>
        show (decide (0 < kd c) && _ && _ && _) = false
        rw [decide_eq_false z]
        rfl
    rw [this]
end
end K06
end

section
set_option Elab.async false
set_option linter.all false
set_option maxRecDepth 100000
namespace K06
open PySem L2 Ev
section
variable {h : Ev.Heap}
abbrev body7 : List S := [.asg (.name 5) (.call 6 [(.var 1)]), .ifs ext7 [.setO 2 (.op1 .neg (.cst (.int 1))) (.op2 .add (.op2 .sto last7 (.cst (.int 2))) (.tup [(.op2 .add (.op2 .ix last7 (.cst (.int 2))) (.view 1)), (.var 5)]))] [.ifs (.op2 .ne (.view 1) (.cst (.str " "))) [.app 2 (.tup [(.var 3), (.var 4), (.var 1), (.var 5)])] []], .asg (.tup [(.name 3), (.name 4)]) (.ite (.op2 .eq (.view 1) (.cst (.str "\n"))) (.tup [(.op2 .add (.view 3) (.cst (.int 1))), (.cst (.int 0))]) (.tup [(.var 3), (.op2 .add (.view 4) (.cst (.int 1)))]))]
theorem set_last {α : Type} (xs : List α) (x y : α) : (xs ++ [x]).set xs.length y = xs ++ [y] := by simp
theorem ix_last {α : Type} (xs : List α) (x : α) : Ev.ixN (xs ++ [x]).length (-1) = some xs.length := by
  unfold Ev.ixN
  have hl : (xs ++ [x]).length = xs.length + 1 := by simp
  rw [hl, if_neg (by omega), if_pos (by omega)]
  congr 1
  omega
theorem turn7 {l : List Nat} {x k y : Sl} {fs : List Q} {ln at' c : Nat} (hx : Ev.isOwnSl (some x) = false) (hk : Ev.isOwnSl (some k) = false) (hb : ∀ q ∈ fs, q.2.2.1.length < LIM) (hf : fs.length < LIM) :
    forTurn Γ7 (.name 1) body7 (tx [c]) (en7 l x fs ln at' k y) h = some (.ok (.nx (en7 l (.val (tx [c])) (lfs (fs, ln, at') c) (if c = 10 then ln + 1 else ln) (if c = 10 then 0 else at' + 1) (.val (nn (kd c))) y)) h) := by
  have ht : setTg (.name 1) (tx [c]) (en7 l x fs ln at' k y) = some (en7 l (.val (tx [c])) fs ln at' k y) := by
    show (if Ev.isOwnSl (some x) = true then none else _) = _
    rw [hx]
    rfl
  show (match setTg (.name 1) (tx [c]) (en7 l x fs ln at' k y) with | some env => _ | none => none) = _
  rw [ht]
  have a1 : evS reprL Γ7 (.asg (.name 5) (.call 6 [(.var 1)])) (en7 l (.val (tx [c])) fs ln at' k y) h = some (.ok (.nx (en7 l (.val (tx [c])) fs ln at' (.val (nn (kd c))) y)) h) := by
    refine run_asg (d := nn (kd c)) (xcall (ds := [tx [c]]) (xs_cons rfl xs_nil) (G6_ok c)) ?_
    show (if Ev.isOwnSl (some k) = true then none else _) = _
    rw [hk]
    rfl
  refine run_cons a1 ?_
  have t1 := ext_ok (h := h) (l := l) (x := .val (tx [c])) (y := y) (fs := fs) (ln := ln) (at' := at') (c := c) fun q hq => Nat.le_of_lt (hb q hq)
  have a2 : evS reprL Γ7 (.ifs ext7 [.setO 2 (.op1 .neg (.cst (.int 1))) (.op2 .add (.op2 .sto last7 (.cst (.int 2))) (.tup [(.op2 .add (.op2 .ix last7 (.cst (.int 2))) (.view 1)), (.var 5)]))] [.ifs (.op2 .ne (.view 1) (.cst (.str " "))) [.app 2 (.tup [(.var 3), (.var 4), (.var 1), (.var 5)])] []]) (en7 l (.val (tx [c])) fs ln at' (.val (nn (kd c))) y) h = some (.ok (.nx (en7 l (.val (tx [c])) (lfs (fs, ln, at') c) ln at' (.val (nn (kd c))) y)) h) := by
    cases z : ext ln at' c fs.getLast? with
    | true =>
      rw [z] at t1
      have e : fs ≠ [] := fun e => by
        rw [e] at z
        cases z
      obtain ⟨gs, q, rfl⟩ := split_last e
      obtain ⟨l', a, t, k'⟩ := q
      have hL := last_ok (h := h) (l := l) (x := .val (tx [c])) (k := .val (nn (kd c))) (y := y) (gs := gs) (q := (l', a, t, k')) (ln := ln) (at' := at')
      have htl : t.length < LIM := hb (l', a, t, k') (by simp)
      have hk' : k' = kd c := by
        rw [List.getLast?_concat] at z
        have z : (decide (0 < kd c) && decide (k' = kd c) && decide (l' = ln) && decide (a + t.length = at')) = true := z
        simp only [andI, decI] at z
        exact z.1.1.2
      have hl7 : lfs (gs ++ [(l', a, t, k')], ln, at') c = gs ++ [(l', a, t ++ [c], kd c)] := by
        unfold lfs
        rw [if_pos z, List.getLast?_concat, List.dropLast_concat, hk']
        rfl
      rw [hl7]
      have ev : evE reprL Γ7 (.op2 .add (.op2 .sto last7 (.cst (.int 2))) (.tup [(.op2 .add (.op2 .ix last7 (.cst (.int 2))) (.view 1)), (.var 5)])) (en7 l (.val (tx [c])) (gs ++ [(l', a, t, k')]) ln at' (.val (nn (kd c))) y) h = some (.ok (qD (l', a, t ++ [c], kd c)) h) :=
        x2 (x := .tup [nn l', nn a]) (y := .tup [tx (t ++ [c]), nn (kd c)]) (x2 (x := qD (l', a, t, k')) (y := .int 2) hL rfl rfl rfl rfl) (xtup (xs_cons (x2 (x := tx t) (y := tx [c]) (x2 (x := qD (l', a, t, k')) (y := .int 2) hL rfl rfl rfl rfl) rfl rfl rfl (add_tx (by rw [List.length_cons, List.length_nil]; omega))) (xs_cons rfl xs_nil))) rfl rfl rfl
      have hix : Ev.ixN ((gs ++ [(l', a, t, k')]).map qD).length (-1) = some gs.length := by
        rw [List.length_map]
        exact ix_last gs _
      refine run_ifT t1 (run_cons (run_setO ev rfl rfl hix) ?_)
      have hs : ((gs ++ [(l', a, t, k')]).map qD).set gs.length (qD (l', a, t ++ [c], kd c)) = (gs ++ [(l', a, t ++ [c], kd c)]).map qD := by
        rw [List.map_append, List.map_append]
        have := set_last (gs.map qD) (qD (l', a, t, k')) (qD (l', a, t ++ [c], kd c))
        rw [List.length_map] at this
        exact this
      rw [hs]
      rfl
    | false =>
      rw [z] at t1
      refine run_ifF t1 (run_cons ?_ run_nil)
      have n1 : evE reprL Γ7 (.op2 .ne (.view 1) (.cst (.str " "))) (en7 l (.val (tx [c])) fs ln at' (.val (nn (kd c))) y) h = some (.ok (.bl (!decide ([c] = [32]))) h) := x2 (x := tx [c]) (y := tx [32]) rfl rfl rfl rfl (ne_tx [c] [32])
      unfold lfs
      rw [if_neg (by rw [z]; decide)]
      by_cases z2 : c = 32
      · rw [decide_eq_true (by rw [z2] : [c] = [32])] at n1
        rw [if_pos z2]
        exact run_ifF n1 run_nil
      · rw [decide_eq_false (fun q => z2 (List.cons.inj q).1 : ¬ [c] = [32])] at n1
        rw [if_neg z2]
        refine run_ifT n1 (run_cons (run_app (d := qD (ln, at', [c], kd c)) (xs := fs.map qD) (xtup (xs_cons rfl (xs_cons rfl (xs_cons rfl (xs_cons rfl xs_nil))))) rfl (by rw [List.length_map]; exact hf)) ?_)
        show some (Out.ok (Flow.nx [.val (tx l), .val (tx [c]), .own (.lst (fs.map qD ++ [qD (ln, at', [c], kd c)])), .val (nn ln), .val (nn at'), .val (nn (kd c)), y]) h) = some (Out.ok (Flow.nx [.val (tx l), .val (tx [c]), .own (.lst ((fs ++ [(ln, at', [c], kd c)]).map qD)), .val (nn ln), .val (nn at'), .val (nn (kd c)), y]) h)
        rw [List.map_append]
        rfl
  refine run_cons a2 ?_
  generalize lfs (fs, ln, at') c = fs'
  refine run_cons ?_ run_nil
  have n2 : evE reprL Γ7 (.op2 .eq (.view 1) (.cst (.str "\n"))) (en7 l (.val (tx [c])) fs' ln at' (.val (nn (kd c))) y) h = some (.ok (.bl (decide ([c] = [10]))) h) := x2 (x := tx [c]) (y := tx [10]) rfl rfl rfl rfl (eq_tx [c] [10])
  by_cases z : c = 10
  · rw [decide_eq_true (by rw [z] : [c] = [10])] at n2
    rw [if_pos z, if_pos z]
    exact run_asg (d := .tup [nn (ln + 1), nn 0]) (xiteT n2 (xtup (xs_cons (x2 (x := nn ln) rfl rfl rfl rfl rfl) (xs_cons rfl xs_nil)))) rfl
  · rw [decide_eq_false (fun q => z (List.cons.inj q).1 : ¬ [c] = [10])] at n2
    rw [if_neg z, if_neg z]
    exact run_asg (d := .tup [nn ln, nn (at' + 1)]) (xiteF n2 (xtup (xs_cons rfl (xs_cons (x2 (x := nn at') rfl rfl rfl rfl rfl) xs_nil)))) rfl
theorem lfs_bound {fs : List Q} {ln at' c m : Nat} (hb : ∀ q ∈ fs, q.2.2.1.length ≤ m) (hf : fs.length ≤ m) : (∀ q ∈ lfs (fs, ln, at') c, q.2.2.1.length ≤ m + 1) ∧ (lfs (fs, ln, at') c).length ≤ m + 1 := by
  unfold lfs
  split
  · rename_i z
    have e : fs ≠ [] := fun e => by
      rw [e] at z
      cases z
    obtain ⟨gs, q, rfl⟩ := split_last e
    obtain ⟨l', a, t, k'⟩ := q
    rw [List.getLast?_concat, List.dropLast_concat]
    constructor
    · intro q hq
      rcases List.mem_append.mp hq with z | z
      · have := hb q (List.mem_append_left _ z)
        omega
      · have z : q ∈ [(l', a, t ++ [c], k')] := z
        rw [List.eq_of_mem_singleton z]
        have := hb (l', a, t, k') (by simp)
        simp only [List.length_append, List.length_cons, List.length_nil] at this ⊢
        omega
    · rw [List.length_append] at hf ⊢
      have : (Option.map (grow c) (some (l', a, t, k'))).toList.length = 1 := rfl
      rw [this]
      exact Nat.le_succ_of_le hf
  · split
    · exact ⟨fun q hq => Nat.le_succ_of_le (hb q hq), Nat.le_succ_of_le hf⟩
    · constructor
      · intro q hq
        rcases List.mem_append.mp hq with z | z
        · exact Nat.le_succ_of_le (hb q z)
        · rw [List.eq_of_mem_singleton z]
          show 1 ≤ m + 1
          omega
      · rw [List.length_append]
        exact Nat.succ_le_succ hf
theorem loop7 {l : List Nat} {y : Sl} : ∀ (r : List Nat) (x k : Sl) (fs : List Q) (ln at' m : Nat), Ev.isOwnSl (some x) = false → Ev.isOwnSl (some k) = false → (∀ q ∈ fs, q.2.2.1.length ≤ m) → fs.length ≤ m → m + r.length < LIM →
    ∃ (x' k' : Sl), forLoop (forTurn Γ7 (.name 1) body7) (r.map fun c => tx [c]) (en7 l x fs ln at' k y) h = some (.ok (.nx (en7 l x' (r.foldl lstep (fs, ln, at')).1 (r.foldl lstep (fs, ln, at')).2.1 (r.foldl lstep (fs, ln, at')).2.2 k' y)) h) ∧ Ev.isOwnSl (some x') = false
  | [], x, k, fs, ln, at', m, hx, hk, hb, hf, hm => ⟨x, k, rfl, hx⟩
  | c :: r, x, k, fs, ln, at', m, hx, hk, hb, hf, hm => by
    rw [List.length_cons] at hm
    have tt := turn7 (h := h) (l := l) (y := y) (c := c) (ln := ln) (at' := at') hx hk (fun q hq => Nat.lt_of_le_of_lt (hb q hq) (by omega)) (by omega : fs.length < LIM)
    obtain ⟨b1, b2⟩ := lfs_bound (ln := ln) (at' := at') (c := c) hb hf
    obtain ⟨x', k', kk, hx'⟩ := loop7 r (.val (tx [c])) (.val (nn (kd c))) (lfs (fs, ln, at') c) (if c = 10 then ln + 1 else ln) (if c = 10 then 0 else at' + 1) (m + 1) rfl rfl b1 b2 (by omega)
    refine ⟨x', k', loop_cons tt ?_, hx'⟩
    rw [kk, List.foldl_cons]
    have : lstep (fs, ln, at') c = (lfs (fs, ln, at') c, if c = 10 then ln + 1 else ln, if c = 10 then 0 else at' + 1) := by
      unfold lstep
      split <;> rfl
    rw [this]
theorem comp7 {l : List Nat} {x k y : Sl} {fs0 : List Q} {ln at' : Nat} (hy : Ev.isOwnSl (some y) = false) (fs : List Q) : compLoop (lcTurn Γ7 (.op2 .sto (.view 6) (.cst (.int 3))) [] [6] (.name 6) (en7 l x fs0 ln at' k y)) (fs.map qD) h = some (.ok (fs.map fun q => mD (cut3 q)) h) := by
  have := comp_map (h := h) (f := lcTurn Γ7 (.op2 .sto (.view 6) (.cst (.int 3))) [] [6] (.name 6) (en7 l x fs0 ln at' k y)) (g := qD) (k := fun q => [mD (cut3 q)]) (as := fs) fun q _ => by
    refine turn_elt (env1 := en7 l x fs0 ln at' k .none) (env2 := en7 l x fs0 ln at' k (.val (qD q))) ?_ rfl (x2 (x := qD q) (y := .int 3) rfl rfl rfl rfl rfl)
    show (if Ev.isOwnSl (some y) = true then none else _) = _
    rw [hy]
    rfl
  rw [this]
  congr 2
  induction fs with
  | nil => rfl
  | cons q fs ih =>
    rw [List.flatMap_cons, List.map_cons, ih]
    · rfl
    · exact comp_map fun q _ => by
        refine turn_elt (env1 := en7 l x fs0 ln at' k .none) (env2 := en7 l x fs0 ln at' k (.val (qD q))) ?_ rfl (x2 (x := qD q) (y := .int 3) rfl rfl rfl rfl rfl)
        show (if Ev.isOwnSl (some y) = true then none else _) = _
        rw [hy]
        rfl
theorem G7_ok {l : List Nat} (hl : l.length < LIM) : G7 [tx l] h = some (.ok (.lst ((F 0 0 l).map mD)) h) := by
  obtain ⟨x', k', kk, hx'⟩ := loop7 (h := h) (l := l) (y := .none) l .none .none [] 0 0 0 rfl rfl (fun q hq => by cases hq) (Nat.le_refl _) (by omega)
  have a1 : evS reprL Γ7 (.par [(true, 2), (false, 3), (false, 4)] [(.lst []), (.cst (.int 0)), (.cst (.int 0))]) [.val (tx l), .none, .none, .none, .none, .none, .none] h = some (.ok (.nx (en7 l .none [] 0 0 .none .none)) h) := rfl
  refine fn_ret (f := f7) rfl (run_cons a1 (run_cons (run_for (h' := h) (s := tx l) rfl (walk_tx (Nat.le_of_lt hl)) kk) (run_ret (run_retE ?_))))
  have := run_lc (Γ := Γ7) (elt := .op2 .sto (.view 6) (.cst (.int 3))) (tg := .name 6) (cnd := []) (it := .view 2) (s := .lst ((l.foldl lstep ([], 0, 0)).1.map qD)) (h := h) (h' := h) (env := en7 l x' (l.foldl lstep ([], 0, 0)).1 (l.foldl lstep ([], 0, 0)).2.1 (l.foldl lstep ([], 0, 0)).2.2 k' .none) rfl rfl (comp7 rfl _)
  rw [this, ← law_marks, List.map_map]
  rfl
end
end K06
end

section
set_option Elab.async false
set_option linter.all false
set_option maxRecDepth 100000
namespace K06
open PySem L2 Ev
theorem G3_ok (ns : List Int) : ∃ h, G3 [.lst (ns.map D.int)] [] = some (.ok (.ref 1) h) ∧ Dr.Box h :=
  Dr.heap_run (Γ := tab [G0, G1, G2]) 60013 69621 29 (by decide) (by decide) ns
theorem draw {h : Ev.Heap} (hb : Dr.Box h) (many : Nat) (h1 : 0 < many) (h2 : many < 2 ^ 62) : ∃ (r : Nat) (h' : Ev.Heap), G4 [.ref 1, nn many] h = some (.ok (nn r) h') ∧ Dr.Box h' ∧ r < many :=
  Dr.draw_nat (Γ := tab [G0, G1, G2, G3]) 48271 17 (by decide) hb many h1 h2
theorem pick {h : Ev.Heap} (hb : Dr.Box h) (xs : List D) (h1 : xs ≠ []) (h2 : xs.length < 2 ^ 62) : ∃ (r : Nat) (x : D) (h' : Ev.Heap), xs[r]? = some x ∧ G5 [.ref 1, .lst xs] h = some (.ok x h') ∧ Dr.Box h' := by
  obtain ⟨r, h', e, hb', hr⟩ := draw hb xs.length (List.length_pos_iff.mpr h1) h2
  refine ⟨r, xs[r], h', List.getElem?_eq_getElem hr, fn_ret (f := f5) rfl (run_ret (run_retE ?_)), hb'⟩
  exact x2 (x := .lst xs) (y := nn r) rfl (xcall (ds := [.ref 1, nn xs.length]) (xs_cons rfl (xs_cons rfl xs_nil)) e) rfl rfl (Ev.atI_nat (List.getElem?_eq_getElem hr))
/-- one drawn text after another -/
theorem comp_box {P : List Nat → Prop} {f : D → Ev.Heap → R (List D)} : ∀ (xs : List D) (h : Ev.Heap), Dr.Box h → (∀ x ∈ xs, ∀ h, Dr.Box h → ∃ (t : List Nat) (h' : Ev.Heap), f x h = some (.ok [tx t] h') ∧ Dr.Box h' ∧ P t) →
    ∃ (ts : List (List Nat)) (h' : Ev.Heap), compLoop f xs h = some (.ok (ts.map tx) h') ∧ Dr.Box h' ∧ ts.length = xs.length ∧ ∀ t ∈ ts, P t
  | [], h, hb, _ => ⟨[], h, rfl, hb, rfl, fun t ht => by cases ht⟩
  | x :: xs, h, hb, H => by
    obtain ⟨t, h1, e, hb1, p⟩ := H x List.mem_cons_self h hb
    obtain ⟨ts, h2, k, hb2, hl, q⟩ := comp_box xs h1 hb1 fun y hy => H y (List.mem_cons_of_mem _ hy)
    refine ⟨t :: ts, h2, comp_cons e k, hb2, congrArg (· + 1) hl, fun y hy => ?_⟩
    rcases List.mem_cons.mp hy with z | z
    · rw [z]
      exact p
    · exact q y z
/-- small signs -/
def Sg (n : Nat) (t : List Nat) : Prop := t.length ≤ n ∧ ∀ c ∈ t, c < 128
theorem flat_sg {n : Nat} : ∀ ts : List (List Nat), (∀ t ∈ ts, Sg n t) → Sg (ts.length * n) ts.flatten ∧ (ts.map (·.length)).sum ≤ ts.length * n
  | [], _ => ⟨⟨by simp, by simp⟩, by simp⟩
  | t :: ts, H => by
    obtain ⟨⟨a, b⟩, c⟩ := flat_sg ts fun x hx => H x (List.mem_cons_of_mem _ hx)
    obtain ⟨a1, b1⟩ := H t List.mem_cons_self
    refine ⟨⟨?_, fun x hx => ?_⟩, ?_⟩
    · rw [List.flatten_cons, List.length_append, List.length_cons, Nat.succ_mul]
      omega
    · rw [List.flatten_cons] at hx
      rcases List.mem_append.mp hx with z | z
      · exact b1 x z
      · exact b x z
    · rw [List.map_cons, List.sum_cons, List.length_cons, Nat.succ_mul]
      omega
theorem range_nn {n : Nat} (h : n ≤ 1000) : o1 reprL .range (nn n) = some (.lst ((List.range n).map nn)) := by
  show (if (small62 (n : Int) && decide ((n : Int) ≤ LIM)) = true then some (D.lst (rangeD 0 1 (n : Int).toNat)) else none) = _
  rw [if_pos]
  · show some (D.lst (rangeD 0 1 n)) = _
    rw [rangeD_nat]
    rfl
  · unfold small62
    simp only [andI, decI]
    have : (LIM : Int) = 16777216 := rfl
    omega
abbrev Γ8 : Nat → List D → Ev.Heap → R D := tab [G0, G1, G2, G3, G4, G5, G6, G7]
/-- signs of a written text, joined -/
theorem word_ok {lit : List Nat} {lst : E} {x1' x2' : Sl} {h : Ev.Heap} (hb : Dr.Box h) (ds : List Nat) (hl : ds ≠ []) (hds : ∀ d ∈ ds, 0 < d ∧ d ≤ 30) (hdl : ds.length < 100) (hlit : lit.length = 10) (hc : ∀ c ∈ lit, c < 128) (he : ∀ h, evE reprL Γ8 lst [.val (.ref 1), x1', x2', .none] h = some (.ok (.lst (ds.map nn)) h)) :
    ∃ t h', evE reprL Γ8 (.op2 .join (.cst (.str "")) (.lc (.op2 .ix (.cst (tx lit)) (.call 4 [(.var 0), (.cst (.int 10))])) (.name 3) (.op1 .range (.op2 .add (.cst (.int 1)) (.call 4 [(.var 0), (.call 5 [(.var 0), lst])]))) [])) [.val (.ref 1), x1', x2', .none] h = some (.ok (tx t) h') ∧ Dr.Box h' ∧ Sg 31 t := by
  obtain ⟨r, x, h1, hx, e1, hb1⟩ := pick hb (ds.map nn) (by simpa using hl) (by rw [List.length_map]; omega)
  rw [List.getElem?_map] at hx
  rcases Option.map_eq_some_iff.mp hx with ⟨d, hd, rfl⟩
  obtain ⟨p1, p2⟩ := hds d (List.mem_of_getElem? hd)
  obtain ⟨n, h2, e2, hb2, hn⟩ := draw hb1 d p1 (by omega)
  have er : evE reprL Γ8 (.op1 .range (.op2 .add (.cst (.int 1)) (.call 4 [(.var 0), (.call 5 [(.var 0), lst])]))) [.val (.ref 1), x1', x2', .none] h = some (.ok (.lst ((List.range (1 + n)).map nn)) h2) := by
    refine x1 (x := nn (1 + n)) (x2 (x := nn 1) (y := nn n) rfl (xcall (ds := [.ref 1, nn d]) (xs_cons rfl (xs_cons (xcall (ds := [.ref 1, .lst (ds.map nn)]) (xs_cons rfl (xs_cons (he h) xs_nil)) e1) xs_nil)) e2) rfl rfl ?_) rfl (range_nn (by omega))
    show some (D.int ((1 : Nat) + (n : Int))) = _
    rfl
  obtain ⟨ts, h3, k, hb3, hlen, hts⟩ := comp_box (P := Sg 1) (f := lcTurn Γ8 (.op2 .ix (.cst (tx lit)) (.call 4 [(.var 0), (.cst (.int 10))])) [] [3] (.name 3) [.val (.ref 1), x1', x2', .none]) ((List.range (1 + n)).map nn) h2 hb2 fun x hx h hb => by
    obtain ⟨c, h', ec, hb', hc'⟩ := draw hb 10 (by decide) (by decide)
    have hg : lit[c]? = some (lit[c]'(by omega)) := List.getElem?_eq_getElem _
    refine ⟨[lit[c]'(by omega)], h', turn_elt (env1 := [.val (.ref 1), x1', x2', .none]) (env2 := [.val (.ref 1), x1', x2', .val x]) rfl rfl ?_, hb', Nat.le_refl _, fun y hy => ?_⟩
    · exact x2 (x := tx lit) (y := nn c) rfl (xcall (ds := [.ref 1, nn 10]) (xs_cons rfl (xs_cons rfl xs_nil)) ec) rfl rfl (ix_tx (by rw [hlit]; decide) hg)
    · rw [List.eq_of_mem_singleton hy]
      exact hc _ (List.getElem_mem _)
  obtain ⟨f1, f2⟩ := flat_sg ts hts
  rw [List.length_map, List.length_range] at hlen
  rw [hlen] at f1 f2
  refine ⟨ts.flatten, h3, ?_, hb3, Nat.le_trans f1.1 (by omega), f1.2⟩
  rw [← jn_nil]
  refine x2 (x := tx []) (y := .lst (ts.map tx)) rfl (run_lc er rfl k) rfl rfl (join_tx ?_)
  rw [List.length_nil, Nat.mul_zero, Nat.add_zero]
  exact Nat.le_trans (Nat.le_trans f2 (by omega : _ ≤ 31)) (by decide)
end K06
end

section
set_option Elab.async false
set_option linter.all false
set_option maxRecDepth 100000
namespace K06
open PySem L2 Ev
def lit1 : List Nat := ("abcxyzisof" : Str).cps.toList
theorem lit1_ok : lit1.length = 10 ∧ ∀ c ∈ lit1, c < 128 := by decide +kernel
theorem dig_ok : dig.length = 10 ∧ ∀ c ∈ dig, c < 128 := by decide +kernel
def sgs1 : List Nat := [10, 58, 44, 59, 47, 33, 38, 124, 40, 41, 65, 90, 45, 126, 95, 64, 123, 91, 63, 10, 46, 36]
def sgs2 : List Nat := [92, 35, 42]
abbrev one (c : Nat) : D := tx [c]
theorem sgs_ok : ∀ c ∈ sgs1 ++ sgs2, c < 128 := by decide
theorem lst_add {a b : List D} (h : a.length + b.length ≤ LIM) : o2 .add (.lst a) (.lst b) = some (.lst (a ++ b)) := if_pos h
abbrev e8a : E := (.lst [(.cst (.str "\n")), (.cst (.str ":")), (.cst (.str ",")), (.cst (.str ";")), (.cst (.str "/")), (.cst (.str "!")), (.cst (.str "&")), (.cst (.str "|")), (.cst (.str "(")), (.cst (.str ")")), (.cst (.str "A")), (.cst (.str "Z")), (.cst (.str "-")), (.cst (.str "~")), (.cst (.str "_")), (.cst (.str "@")), (.cst (.str "{")), (.cst (.str "[")), (.cst (.str "?")), (.cst (.str "\n")), (.cst (.str ".")), (.cst (.str "$"))])
abbrev e8b : E := (.lst [(.cst (.str "\\")), (.cst (.str "#")), (.cst (.str "*"))])
theorem e8a_ok {env : Ev.Env} {h : Ev.Heap} : evE reprL Γ8 e8a env h = some (.ok (.lst (sgs1.map one)) h) := rfl
theorem e8b_ok {env : Ev.Env} {h : Ev.Heap} : evE reprL Γ8 e8b env h = some (.ok (.lst (sgs2.map one)) h) := rfl
theorem G8_ok {h : Ev.Heap} (hb : Dr.Box h) : ∃ (t : List Nat) (h' : Ev.Heap), G8 [.ref 1] h = some (.ok (tx t) h') ∧ Dr.Box h' ∧ Sg 31 t := by
  obtain ⟨r, h1, e1, hb1, hr⟩ := draw hb 9 (by decide) (by decide)
  have a1 : evS reprL Γ8 (.asg (.name 1) (.call 4 [(.var 0), (.cst (.int 9))])) [.val (.ref 1), .none, .none, .none] h = some (.ok (.nx [.val (.ref 1), .val (nn r), .none, .none]) h1) := run_asg (d := nn r) (xcall (ds := [.ref 1, nn 9]) (xs_cons rfl (xs_cons rfl xs_nil)) e1) rfl
  have n1 : evE reprL Γ8 (.op2 .lt (.view 1) (.cst (.int 2))) [.val (.ref 1), .val (nn r), .none, .none] h1 = some (.ok (.bl (decide (r < 2))) h1) := x2 (x := nn r) (y := nn 2) rfl rfl rfl rfl (lt_nn _ _)
  have n2 : evE reprL Γ8 (.op2 .lt (.view 1) (.cst (.int 4))) [.val (.ref 1), .val (nn r), .none, .none] h1 = some (.ok (.bl (decide (r < 4))) h1) := x2 (x := nn r) (y := nn 4) rfl rfl rfl rfl (lt_nn _ _)
  have n3 : evE reprL Γ8 (.op2 .eq (.view 1) (.cst (.int 4))) [.val (.ref 1), .val (nn r), .none, .none] h1 = some (.ok (.bl (decide (r = 4))) h1) := x2 (x := nn r) (y := nn 4) rfl rfl rfl rfl (eq_nn _ _)
  by_cases z1 : r < 2
  · rw [decide_eq_true z1] at n1
    obtain ⟨t, h2, e2, hb2, ht⟩ := word_ok (lit := lit1) (lst := .lst [(.cst (.int 3)), (.cst (.int 7)), (.cst (.int 30))]) (x1' := .val (nn r)) (x2' := .none) hb1 [3, 7, 30] (by decide) (by decide) (by decide) lit1_ok.1 lit1_ok.2 (fun h => rfl)
    exact ⟨t, h2, fn_ret (f := f8) rfl (run_cons a1 (run_ret (run_ifT n1 (run_ret (run_retE e2))))), hb2, ht⟩
  · rw [decide_eq_false z1] at n1
    by_cases z2 : r < 4
    · rw [decide_eq_true z2] at n2
      obtain ⟨t, h2, e2, hb2, ht⟩ := word_ok (lit := dig) (lst := .lst [(.cst (.int 2)), (.cst (.int 4)), (.cst (.int 6))]) (x1' := .val (nn r)) (x2' := .none) hb1 [2, 4, 6] (by decide) (by decide) (by decide) dig_ok.1 dig_ok.2 (fun h => rfl)
      exact ⟨t, h2, fn_ret (f := f8) rfl (run_cons a1 (run_cons (run_ifF n1 run_nil) (run_ret (run_ifT n2 (run_ret (run_retE e2)))))), hb2, ht⟩
    · rw [decide_eq_false z2] at n2
      by_cases z3 : r = 4
      · rw [decide_eq_true z3] at n3
        obtain ⟨n, h2, e2, hb2, hn⟩ := draw hb1 3 (by decide) (by decide)
        have hm : evE reprL Γ8 (.op2 .mul (.cst (.str " ")) (.op2 .add (.cst (.int 1)) (.call 4 [(.var 0), (.cst (.int 3))]))) [.val (.ref 1), .val (nn r), .none, .none] h1 = some (.ok (tx (List.replicate (1 + n) [32]).flatten) h2) :=
          x2 (x := tx [32]) (y := nn (1 + n)) rfl (x2 (x := nn 1) (y := nn n) rfl (xcall (ds := [.ref 1, nn 3]) (xs_cons rfl (xs_cons rfl xs_nil)) e2) rfl rfl rfl) rfl rfl (mul_tx (by decide) (by omega))
        obtain ⟨f1, _⟩ := flat_sg (n := 1) (List.replicate (1 + n) [32]) fun t ht => by
          rw [List.eq_of_mem_replicate ht]
          exact ⟨Nat.le_refl _, by decide⟩
        rw [List.length_replicate] at f1
        exact ⟨_, h2, fn_ret (f := f8) rfl (run_cons a1 (run_cons (run_ifF n1 run_nil) (run_cons (run_ifF n2 run_nil) (run_ret (run_ifT n3 (run_ret (run_retE hm))))))), hb2, Nat.le_trans f1.1 (by omega), f1.2⟩
      · rw [decide_eq_false z3] at n3
        obtain ⟨k, x, h2, hx, e2, hb2⟩ := pick hb1 ((sgs1 ++ sgs2).map one) (by decide) (by rw [List.length_map]; decide)
        rw [List.getElem?_map] at hx
        obtain ⟨c, hc, rfl⟩ := Option.map_eq_some_iff.mp hx
        have hm : evE reprL Γ8 (.call 5 [(.var 0), (.op2 .add (.view 2) e8b)]) [.val (.ref 1), .val (nn r), .val (.lst (sgs1.map one)), .none] h1 = some (.ok (one c) h2) := by
          refine xcall (ds := [.ref 1, .lst ((sgs1 ++ sgs2).map one)]) (xs_cons rfl (xs_cons ?_ xs_nil)) e2
          refine x2 (x := .lst (sgs1.map one)) (y := .lst (sgs2.map one)) rfl e8b_ok rfl rfl ?_
          rw [List.map_append]
          exact lst_add (by rw [List.length_map, List.length_map]; decide)
        refine ⟨[c], h2, fn_ret (f := f8) rfl (run_cons a1 (run_cons (run_ifF n1 run_nil) (run_cons (run_ifF n2 run_nil) (run_cons (run_ifF n3 run_nil) (run_cons (run_asg e8a_ok rfl) (run_ret (run_retE hm))))))), hb2, Nat.le_trans (Nat.le_refl 1) (by decide), fun y hy => ?_⟩
        rw [List.eq_of_mem_singleton hy]
        exact sgs_ok c (List.mem_of_getElem? hc)
end K06
end

section
set_option Elab.async false
set_option linter.all false
set_option maxRecDepth 100000
namespace Ev
open PySem
theorem shown_small : ∀ n : Nat, n < 1000 → (PyData.shown (.int (n : Int))).length ≤ 8 := by
  decide +kernel
theorem log_lt {n : Nat} (h : n < 1000) : n.log2 < 1920 := by
  by_cases z : n = 0
  · rw [z]
    decide
  · have : n.log2 < 10 := (Nat.log2_lt z).mpr (by omega)
    omega
def nd (n : Nat) : D := .int n
def Sm (f : List Nat) : Prop := (∀ n ∈ f, n < 1000) ∧ f.length ≤ 1000
theorem sm_py : ∀ {f : List Nat}, (∀ n ∈ f, n < 1000) → PyData.showableAll (D.pys (f.map nd)) = true ∧ PyData.leavesShortAll 8 (D.pys (f.map nd)) = true ∧ PyData.weightAll (D.pys (f.map nd)) ≤ 12 * f.length
  | [], _ => ⟨rfl, rfl, Nat.le_refl _⟩
  | n :: f, h => by
    obtain ⟨a, b, c⟩ := sm_py (f := f) fun m hm => h m (List.mem_cons_of_mem _ hm)
    have hn := h n List.mem_cons_self
    refine ⟨?_, ?_, ?_⟩
    · show (PyData.showable (.int (n : Int)) && PyData.showableAll (D.pys (f.map nd))) = true
      rw [a, Bool.and_true]
      exact decide_eq_true (log_lt hn)
    · show (PyData.leavesShort 8 (.int (n : Int)) && PyData.leavesShortAll 8 (D.pys (f.map nd))) = true
      rw [b, Bool.and_true]
      simp only [PyData.leavesShort]
      exact decide_eq_true (shown_small n hn)
    · show PyData.weight (.int (n : Int)) + 1 + PyData.weightAll (D.pys (f.map nd)) ≤ _
      have : PyData.weight (.int (n : Int)) ≤ 11 := by
        simp only [PyData.weight]
        split
        · omega
        · rename_i z
          have z : n ≠ 0 := fun e => z (by rw [e]; rfl)
          have : n.log2 < 10 := (Nat.log2_lt z).mpr (by omega)
          show n.log2 + 1 ≤ 11
          omega
      rw [List.length_cons]
      omega
theorem rp_tup {f : List Nat} (h : Sm f) : D.plain (.tup (f.map nd)) = true ∧ reprL.ok (.tup (f.map nd)) = true ∧ reprL.ok (.lst (f.map nd)) = true ∧ D.plain (.lst (f.map nd)) = true ∧ D.depth (.tup (f.map nd)) = 1 ∧ D.depth (.lst (f.map nd)) = 1 := by
  obtain ⟨a, b, c⟩ := sm_py h.1
  have pl : D.plains (f.map nd) = true := by
    clear h a b c
    induction f with
    | nil => rfl
    | cons n f ih => exact ih
  have dp : D.depths (f.map nd) = 0 := by
    clear h a b c pl
    induction f with
    | nil => rfl
    | cons n f ih =>
      show max 0 (D.depths (f.map nd)) = 0
      rw [ih]
      rfl
  have hl := h.2
  have e : ∀ d : PyData, d.leavesShort 8 = true → d.weight ≤ 12 * f.length + 2 → d.shown.length ≤ LIM := fun d h1 h2 => by
    have := PyData.shown_le 8 (by decide) d h1
    show _ ≤ 16777216
    omega
  refine ⟨pl, ?_, ?_, pl, by show D.depths (f.map nd) + 1 = 1; rw [dp], by show D.depths (f.map nd) + 1 = 1; rw [dp]⟩
  · show (PyData.showableAll (D.pys (f.map nd)) && decide ((PyData.shown (.tuple (D.pys (f.map nd)))).length ≤ LIM) && decide (D.depths (f.map nd) + 1 ≤ 64)) = true
    rw [a, dp, decide_eq_true (e (.tuple (D.pys (f.map nd))) (by simpa only [PyData.leavesShort] using b) (by simp only [PyData.weight]; omega))]
    rfl
  · show (PyData.showableAll (D.pys (f.map nd)) && decide ((PyData.shown (.list (D.pys (f.map nd)))).length ≤ LIM) && decide (D.depths (f.map nd) + 1 ≤ 64)) = true
    rw [a, dp, decide_eq_true (e (.list (D.pys (f.map nd))) (by simpa only [PyData.leavesShort] using b) (by simp only [PyData.weight]; omega))]
    rfl
theorem rp_int {n : Nat} (h : n < 1000) : reprL.ok (nd n) = true := by
  show (PyData.showable (.int (n : Int)) && decide ((PyData.shown (.int (n : Int))).length ≤ LIM) && true) = true
  rw [show PyData.showable (.int (n : Int)) = true from decide_eq_true (log_lt h), decide_eq_true (Nat.le_trans (shown_small n h) (by decide))]
  rfl
/-- repr of a small thing -/
theorem o1_repr {d : D} (hp : D.plain d = true) (ho : reprL.ok d = true) : o1 reprL .repr d = some (.str (reprL.text d)) := by
  show (if (D.plain d && reprL.ok d) = true then some (D.str (reprL.text d)) else none) = _
  rw [hp, ho]
  rfl
mutual
theorem eqv_refl : ∀ d : D, D.plain d = true → D.eqv d d = true
  | .non, _ => rfl
  | .bl b, _ => by
    show (b == b) = true
    simp
  | .int i, _ => by
    show (i == i) = true
    simp
  | .str z, _ => by
    show (z == z) = true
    simp
  | .tup xs, h => eqvs_refl xs h
  | .lst xs, h => eqvs_refl xs h
  | .ref _, h => by cases h
theorem eqvs_refl : ∀ ds : List D, D.plains ds = true → D.eqvs ds ds = true
  | [], _ => rfl
  | d :: ds, h => by
    have h := (Bool.and_eq_true _ _).mp h
    show (D.eqv d d && D.eqvs ds ds) = true
    rw [eqv_refl d h.1, eqvs_refl ds h.2]
    rfl
end
/-- a thing is not unlike itself -/
theorem ne_self {d : D} (hp : D.plain d = true) (hd : D.depth d ≤ 64) : o2 .ne d d = some (.bl false) := by
  have hc : cmpOk d d = true := by
    unfold cmpOk
    rw [hp, Nat.min_self, decide_eq_true hd]
    rfl
  show (if cmpOk d d = true then some (D.bl (!D.eqv d d)) else none) = _
  rw [if_pos hc, eqv_refl d hp]
  rfl
theorem eq_self {d : D} (hp : D.plain d = true) (hd : D.depth d ≤ 64) : o2 .eq d d = some (.bl true) := by
  have hc : cmpOk d d = true := by
    unfold cmpOk
    rw [hp, Nat.min_self, decide_eq_true hd]
    rfl
  show (if cmpOk d d = true then some (D.bl (D.eqv d d)) else none) = _
  rw [if_pos hc, eqv_refl d hp]
end Ev
end

section
set_option Elab.async false
set_option linter.all false
set_option maxRecDepth 100000
namespace K06
open PySem L2 Ev
theorem rest_sub (c : Nat) (r : List Nat) : ∀ x ∈ rest c r, x ∈ c :: r := fun x hx => by
  rw [mk_app c r]
  exact List.mem_append_right _ hx
theorem mk_sub (c : Nat) (r : List Nat) : ∀ x ∈ mk c r, x ∈ c :: r := fun x hx => by
  rw [mk_app c r]
  exact List.mem_append_left _ hx
theorem F_bd : ∀ (n : Nat) (l : List Nat) (ln col : Nat), l.length ≤ n → (∀ m ∈ F ln col l, m.1 ≤ ln + l.length ∧ m.2.1 ≤ col + l.length ∧ ∀ c ∈ m.2.2, c ∈ l) ∧ (F ln col l).length ≤ l.length ∧ ((F ln col l).map fun m => m.2.2.length).sum ≤ l.length
  | _, [], ln, col, _ => by
    rw [F_nil]
    exact ⟨fun m hm => (by cases hm), Nat.le_refl _, Nat.le_refl _⟩
  | 0, c :: r, _, _, h => by simp at h
  | n + 1, c :: r, ln, col, h => by
    have hml := mk_len c r
    have hmp := mk_pos c r
    rw [List.length_cons] at h
    obtain ⟨a1, a2, a3⟩ := F_bd n (rest c r) (ln + 1) 0 (by omega)
    obtain ⟨b1, b2, b3⟩ := F_bd n (rest c r) ln (col + (mk c r).length) (by omega)
    rw [F_cons, List.length_append, List.map_append, List.sum_append, List.length_cons]
    have e1 : (if mk c r = [32] then [] else [(ln, col, mk c r)] : List Mk).length ≤ 1 ∧ ((if mk c r = [32] then [] else [(ln, col, mk c r)] : List Mk).map fun m => m.2.2.length).sum ≤ (mk c r).length := by
      split
      · exact ⟨Nat.zero_le _, Nat.zero_le _⟩
      · exact ⟨Nat.le_refl _, by simp⟩
    refine ⟨fun m hm => ?_, ?_, ?_⟩
    · rcases List.mem_append.mp hm with z | z
      · split at z
        · cases z
        · rw [List.eq_of_mem_singleton z]
          exact ⟨Nat.le_add_right _ _, Nat.le_add_right _ _, mk_sub c r⟩
      · split at z
        · obtain ⟨q1, q2, q3⟩ := a1 m z
          exact ⟨by omega, by omega, fun x hx => rest_sub c r x (q3 x hx)⟩
        · obtain ⟨q1, q2, q3⟩ := b1 m z
          exact ⟨by omega, by omega, fun x hx => rest_sub c r x (q3 x hx)⟩
    · by_cases z : mk c r = [10]
      · rw [if_pos z]
        omega
      · rw [if_neg z]
        omega
    · by_cases z : mk c r = [10]
      · rw [if_pos z]
        omega
      · rw [if_neg z]
        omega
/-! repr of marks -/
theorem shown3 : ∀ n : Nat, n < 3000 → (PyData.shown (.int (n : Int))).length ≤ 8 := by
  decide +kernel
theorem wt_int {n : Nat} (h : n < 3000) : PyData.weight (.int (n : Int)) ≤ 13 ∧ PyData.showable (.int (n : Int)) = true ∧ PyData.leavesShort 8 (.int (n : Int)) = true := by
  have hl : ∀ z : ¬ n = 0, n.log2 < 12 := fun z => (Nat.log2_lt z).mpr (by omega)
  refine ⟨?_, ?_, ?_⟩
  · simp only [PyData.weight]
    split
    · omega
    · rename_i z
      have := hl fun e => z (by rw [e]; rfl)
      show n.log2 + 1 ≤ 13
      omega
  · refine decide_eq_true (?_ : n.log2 < 1920)
    by_cases z : n = 0
    · rw [z]
      decide
    · have := hl z
      omega
  · simp only [PyData.leavesShort]
    exact decide_eq_true (shown3 n h)
theorem mark_py : ∀ ms : List Mk, (∀ m ∈ ms, m.1 < 3000 ∧ m.2.1 < 3000 ∧ ∀ c ∈ m.2.2, c < 128) → PyData.showableAll (D.pys (ms.map mD)) = true ∧ PyData.leavesShortAll 8 (D.pys (ms.map mD)) = true ∧ PyData.weightAll (D.pys (ms.map mD)) ≤ 50 * ms.length + (ms.map fun m => m.2.2.length).sum
  | [], _ => ⟨rfl, rfl, Nat.le_refl _⟩
  | (a, b, t) :: ms, H => by
    obtain ⟨h1, h2, h3⟩ := mark_py ms fun m hm => H m (List.mem_cons_of_mem _ hm)
    obtain ⟨q1, q2, q3⟩ := H (a, b, t) List.mem_cons_self
    obtain ⟨w1, s1, l1⟩ := wt_int (n := a) q1
    obtain ⟨w2, s2, l2⟩ := wt_int (n := b) q2
    have l3 : PyData.leavesShort 8 (.str (st t)) = true := by
      simp only [PyData.leavesShort]
      refine List.all_eq_true.mpr fun c hc => decide_eq_true ?_
      have : c < 128 := q3 c hc
      exact Nat.lt_trans this (by decide)
    have w3 : PyData.weight (.str (st t)) ≤ t.length + 5 := by
      simp only [PyData.weight]
      show t.toArray.size ≤ _ 
      rw [List.size_toArray]
      omega
    have e : D.pys (((a, b, t) :: ms).map mD) = .tuple [.int (a : Int), .int (b : Int), .str (st t)] :: D.pys (ms.map mD) := rfl
    rw [e]
    refine ⟨?_, ?_, ?_⟩
    · show ((PyData.showable (.int (a : Int)) && (PyData.showable (.int (b : Int)) && (true && true))) && PyData.showableAll (D.pys (ms.map mD))) = true
      rw [s1, s2, h1]
      rfl
    · show ((PyData.leavesShort 8 (.int (a : Int)) && (PyData.leavesShort 8 (.int (b : Int)) && (PyData.leavesShort 8 (.str (st t)) && true))) && PyData.leavesShortAll 8 (D.pys (ms.map mD))) = true
      rw [l1, l2, l3, h2]
      rfl
    · simp only [PyData.weightAll]
      have : PyData.weight (.tuple [.int (a : Int), .int (b : Int), .str (st t)]) ≤ PyData.weight (.int (a : Int)) + PyData.weight (.int (b : Int)) + PyData.weight (.str (st t)) + 8 := by
        generalize hx : PyData.int (a : Int) = x
        generalize hy : PyData.int (b : Int) = y
        generalize hz : PyData.str (st t) = z
        simp only [PyData.weight, PyData.weightAll]
        omega
      rw [List.map_cons, List.sum_cons, List.length_cons]
      simp only
      omega
theorem plains_m : ∀ ms : List Mk, D.plains (ms.map mD) = true
  | [] => rfl
  | _ :: ms => plains_m ms
theorem depths_m : ∀ ms : List Mk, D.depths (ms.map mD) ≤ 1
  | [] => Nat.zero_le _
  | m :: ms => by
    show max (D.depth (mD m)) (D.depths (ms.map mD)) ≤ 1
    exact Nat.max_le.mpr ⟨Nat.le_refl _, depths_m ms⟩
theorem rp_marks {ms : List Mk} (H : ∀ m ∈ ms, m.1 < 3000 ∧ m.2.1 < 3000 ∧ ∀ c ∈ m.2.2, c < 128) (hl : ms.length ≤ 3000) (hs : (ms.map fun m => m.2.2.length).sum ≤ 3000) : o1 reprL .repr (.tup (ms.map mD)) = some (.str (reprL.text (.tup (ms.map mD)))) := by
  obtain ⟨a, b, c⟩ := mark_py ms H
  refine o1_repr (plains_m ms) ?_
  have := PyData.shown_le 8 (by decide) (.tuple (D.pys (ms.map mD))) (by simpa only [PyData.leavesShort] using b)
  have hw : PyData.weight (.tuple (D.pys (ms.map mD))) ≤ PyData.weightAll (D.pys (ms.map mD)) + 2 := by
    simp only [PyData.weight]
    omega
  have e : (PyData.shown (.tuple (D.pys (ms.map mD)))).length ≤ LIM := by
    show _ ≤ 16777216
    omega
  show (PyData.showableAll (D.pys (ms.map mD)) && decide ((PyData.shown (.tuple (D.pys (ms.map mD)))).length ≤ LIM) && decide (D.depths (ms.map mD) + 1 ≤ 64)) = true
  rw [a, decide_eq_true e, decide_eq_true (by have := depths_m ms; omega)]
  rfl
theorem dp_marks (ms : List Mk) : D.depth (.tup (ms.map mD)) ≤ 64 := by
  have := depths_m ms
  show D.depths (ms.map mD) + 1 ≤ 64
  omega
theorem plains_t : ∀ ts : List (List Nat), D.plains (ts.map tx) = true
  | [] => rfl
  | _ :: ts => plains_t ts
theorem depths_t : ∀ ts : List (List Nat), D.depths (ts.map tx) = 0
  | [] => rfl
  | t :: ts => by
    show max (D.depth (tx t)) (D.depths (ts.map tx)) = 0
    rw [depths_t ts]
    rfl
end K06
end

section
set_option Elab.async false
set_option linter.all false
set_option maxRecDepth 100000
namespace K06
open PySem L2 Ev
abbrev Γ9 : Nat → List D → Ev.Heap → R D := tab [G0, G1, G2, G3, G4, G5, G6, G7, G8]
abbrev en9 (s0 x2 x3 x4 x5 x6 : Sl) : Ev.Env := [s0, .val (.ref 1), x2, x3, x4, x5, x6, .none, .none, .none, .none]
theorem jn_len (S : List Nat) : ∀ ts : List (List Nat), (jn S ts).length ≤ (ts.map (·.length)).sum + ts.length * S.length
  | [] => Nat.zero_le _
  | [p] => by
    show p.length ≤ p.length + 0 + 1 * S.length
    omega
  | p :: q :: r => by
    have ih := jn_len S (q :: r)
    show (p ++ (S ++ jn S (q :: r))).length ≤ p.length + ((q :: r).map (·.length)).sum + ((q :: r).length + 1) * S.length
    rw [List.length_append, List.length_append, Nat.succ_mul]
    omega
theorem Sg.app {n m : Nat} {a b : List Nat} (p : Sg n a) (q : Sg m b) : Sg (n + m) (a ++ b) := by
  refine ⟨by rw [List.length_append]; have := p.1; have := q.1; omega, fun c hc => ?_⟩
  rcases List.mem_append.mp hc with z | z
  · exact p.2 c z
  · exact q.2 c z
theorem Sg.rep {n : Nat} {a : List Nat} (p : Sg n a) (k : Nat) : Sg (k * n) (List.replicate k a).flatten := by
  have := (flat_sg (n := n) (List.replicate k a) fun t ht => by rw [List.eq_of_mem_replicate ht]; exact p).1
  rw [List.length_replicate] at this
  exact this
abbrev tg9 : Tg := .tup [(.name 8), (.name 9), (.name 10)]
section
variable {s0 x2 x3 x4 x5 x6 : Sl}
theorem comp9 {h : Ev.Heap} : ∀ ms : List Mk, compLoop (lcTurn Γ9 (.var 10) [] [8, 9, 10] tg9 (en9 s0 x2 x3 x4 x5 x6)) (ms.map mD) h = some (.ok ((ms.map (·.2.2)).map tx) h)
  | [] => rfl
  | m :: ms => comp_cons (o := [tx m.2.2]) (turn_elt (env1 := en9 s0 x2 x3 x4 x5 x6) (env2 := [s0, .val (.ref 1), x2, x3, x4, x5, x6, .none, .val (nn m.1), .val (nn m.2.1), .val (tx m.2.2)]) rfl rfl rfl) (comp9 ms)
/-- the text of pieces -/
theorem text1 {h : Ev.Heap} (hb : Dr.Box h) : ∃ (t : List Nat) (h' : Ev.Heap), evE reprL Γ9 (.op2 .join (.cst (.str "")) (.lc (.call 8 [(.var 1)]) (.name 7) (.op1 .range (.call 5 [(.var 1), (.lst [(.cst (.int 5)), (.cst (.int 20)), (.cst (.int 1)), (.cst (.int 60)), (.cst (.int 0))])])) [])) (en9 s0 x2 x3 x4 x5 x6) h = some (.ok (tx t) h') ∧ Dr.Box h' ∧ Sg 1860 t := by
  obtain ⟨r, x, h1, hx, e1, hb1⟩ := pick hb (([5, 20, 1, 60, 0] : List Nat).map nn) (by decide) (by decide)
  rw [List.getElem?_map] at hx
  rcases Option.map_eq_some_iff.mp hx with ⟨d, hd, rfl⟩
  have hd60 : d ≤ 60 := (by decide : ∀ d ∈ ([5, 20, 1, 60, 0] : List Nat), d ≤ 60) d (List.mem_of_getElem? hd)
  have er : evE reprL Γ9 (.op1 .range (.call 5 [(.var 1), (.lst [(.cst (.int 5)), (.cst (.int 20)), (.cst (.int 1)), (.cst (.int 60)), (.cst (.int 0))])])) (en9 s0 x2 x3 x4 x5 x6) h = some (.ok (.lst ((List.range d).map nn)) h1) :=
    x1 (x := nn d) (xcall (ds := [.ref 1, .lst (([5, 20, 1, 60, 0] : List Nat).map nn)]) (xs_cons rfl (xs_cons rfl xs_nil)) e1) rfl (range_nn (by omega))
  obtain ⟨ts, h3, k, hb3, hlen, hts⟩ := comp_box (P := Sg 31) (f := lcTurn Γ9 (.call 8 [(.var 1)]) [] [7] (.name 7) (en9 s0 x2 x3 x4 x5 x6)) ((List.range d).map nn) h1 hb1 fun x hx h hb => by
    obtain ⟨t, h', e, hb', ht⟩ := G8_ok hb
    exact ⟨t, h', turn_elt (env1 := en9 s0 x2 x3 x4 x5 x6) (env2 := [s0, .val (.ref 1), x2, x3, x4, x5, x6, .val x, .none, .none, .none]) rfl rfl (xcall (ds := [.ref 1]) (xs_cons rfl xs_nil) e), hb', ht⟩
  obtain ⟨f1, f2⟩ := flat_sg ts hts
  rw [List.length_map, List.length_range] at hlen
  rw [hlen] at f1 f2
  refine ⟨ts.flatten, h3, ?_, hb3, Nat.le_trans f1.1 (by omega), f1.2⟩
  rw [← jn_nil]
  refine Ev.x2 (x := tx []) (y := .lst (ts.map tx)) rfl (run_lc er rfl k) rfl rfl (join_tx ?_)
  rw [List.length_nil, Nat.mul_zero, Nat.add_zero]
  exact Nat.le_trans (Nat.le_trans f2 (by omega : _ ≤ 1860)) (by decide)
theorem text2 {h : Ev.Heap} {t : List Nat} (hb : Dr.Box h) (ht : Sg 1860 t) : ∃ (T : List Nat) (h' : Ev.Heap), evE reprL Γ9 (.ite (.op2 .eq (.call 4 [(.var 1), (.cst (.int 5))]) (.cst (.int 0))) (.op2 .add (.op2 .add (.op2 .add (.op2 .add (.op2 .mul (.cst (.str "7")) (.cst (.int 390))) (.cst (.str " "))) (.view 3)) (.cst (.str ":"))) (.op2 .mul (.cst (.str "12")) (.cst (.int 190)))) (.var 3)) (en9 s0 x2 (.val (tx t)) x4 x5 x6) h = some (.ok (tx T) h') ∧ Dr.Box h' ∧ Sg 2700 T := by
  obtain ⟨r, h1, e1, hb1, hr⟩ := draw hb 5 (by decide) (by decide)
  have n1 : evE reprL Γ9 (.op2 .eq (.call 4 [(.var 1), (.cst (.int 5))]) (.cst (.int 0))) (en9 s0 x2 (.val (tx t)) x4 x5 x6) h = some (.ok (.bl (decide (r = 0))) h1) := Ev.x2 (x := nn r) (y := nn 0) (xcall (ds := [.ref 1, nn 5]) (xs_cons rfl (xs_cons rfl xs_nil)) e1) rfl rfl rfl (eq_nn _ _)
  by_cases z : r = 0
  · rw [decide_eq_true z] at n1
    have g1 : Sg 390 (List.replicate 390 [55]).flatten := Sg.rep (n := 1) ⟨Nat.le_refl _, by decide⟩ 390
    have g2 : Sg 380 (List.replicate 190 [49, 50]).flatten := Sg.rep (n := 2) ⟨Nat.le_refl _, by decide⟩ 190
    have m1 := mul_tx (a := [55]) (k := 390) (by decide) (by decide)
    have m2 := mul_tx (a := [49, 50]) (k := 190) (by decide) (by decide)
    generalize (List.replicate 390 [55]).flatten = A at g1 m1
    generalize (List.replicate 190 [49, 50]).flatten = B at g2 m2
    have g3 : Sg 2632 ((((A ++ [32]) ++ t) ++ [58]) ++ B) := Sg.app (Sg.app (Sg.app (Sg.app g1 (m := 1) ⟨Nat.le_refl _, by decide⟩) ht) (m := 1) ⟨Nat.le_refl _, by decide⟩) g2
    have hA := g1.1
    have hB := g2.1
    have hT := ht.1
    have lim : ∀ n : Nat, n ≤ 3000 → n ≤ LIM := fun n hn => Nat.le_trans hn (by decide)
    refine ⟨_, h1, xiteT n1 ?_, hb1, Nat.le_trans g3.1 (by decide), g3.2⟩
    refine Ev.x2 (x := tx (((A ++ [32]) ++ t) ++ [58])) (y := tx B) (Ev.x2 (x := tx ((A ++ [32]) ++ t)) (y := tx [58]) (Ev.x2 (x := tx (A ++ [32])) (y := tx t) (Ev.x2 (x := tx A) (y := tx [32]) (Ev.x2 (x := tx [55]) (y := nn 390) rfl rfl rfl rfl m1) rfl rfl rfl (add_tx (lim _ ?_))) rfl rfl rfl (add_tx (lim _ ?_))) rfl rfl rfl (add_tx (lim _ ?_))) (Ev.x2 (x := tx [49, 50]) (y := nn 190) rfl rfl rfl rfl m2) rfl rfl (add_tx (lim _ ?_))
    all_goals (simp only [List.length_append, List.length_cons, List.length_nil]; omega)
  · rw [decide_eq_false z] at n1
    exact ⟨t, h1, xiteF n1 rfl, hb1, Nat.le_trans ht.1 (by decide), ht.2⟩
end
end K06
end

section
set_option Elab.async false
set_option linter.all false
set_option maxRecDepth 100000
namespace K06
open PySem L2 Ev
abbrev eW : E := .op2 .join (.cst (.str "")) (.lc (.call 8 [(.var 1)]) (.name 7) (.op1 .range (.call 5 [(.var 1), (.lst [(.cst (.int 5)), (.cst (.int 20)), (.cst (.int 1)), (.cst (.int 60)), (.cst (.int 0))])])) [])
abbrev eX : E := .ite (.op2 .eq (.call 4 [(.var 1), (.cst (.int 5))]) (.cst (.int 0))) (.op2 .add (.op2 .add (.op2 .add (.op2 .add (.op2 .mul (.cst (.str "7")) (.cst (.int 390))) (.cst (.str " "))) (.view 3)) (.cst (.str ":"))) (.op2 .mul (.cst (.str "12")) (.cst (.int 190)))) (.var 3)
abbrev tA : E := .or (.op2 .ne (.op1 .repr (.view 5)) (.op1 .repr (.view 4))) (.op2 .ne (.callK 2 [0] [(.var 3)]) (.view 5))
abbrev eJ : E := .op2 .join (.cst (.str " ")) (.lc (.var 10) tg9 (.view 4) [])
abbrev tB : E := .op2 .ne (.lc (.var 10) tg9 (.call 2 [(.var 6)]) []) (.lc (.var 10) tg9 (.view 4) [])
abbrev body9 : List S := [.asg (.name 3) eW, .asg (.name 3) eX, .asg (.name 4) (.op1 .tuple (.call 7 [(.var 3)])), .asg (.name 5) (.call 2 [(.var 3)]), .ifs tA [.ret (.cst (.bl false))] [], .asg (.name 6) eJ, .ifs tB [.ret (.cst (.bl false))] []]
def wds (T : List Nat) : List (List Nat) := (F 0 0 T).map fun m => m.2.2
section
variable {s0 : Sl}
theorem compW {h : Ev.Heap} {x2 x3 x4 x5 x6 : Sl} (T : List Nat) : compLoop (lcTurn Γ9 (.var 10) [] tg9.slots tg9 (en9 s0 x2 x3 x4 x5 x6)) ((F 0 0 T).map mD) h = some (.ok ((wds T).map tx) h) := comp9 (F 0 0 T)
theorem setv {env : Ev.Env} {i : Nat} {d : D} (h : Ev.isOwnSl env[i]? = false) : setTg (.name i) d env = some (env.set i (.val d)) := by
  show (if Ev.isOwnSl env[i]? = true then none else _) = _
  rw [h]
  rfl
theorem ne_same {d : D} (hp : D.plain d = true) (hd : D.depth d ≤ 64) : o2 .ne d d = some (.bl false) := ne_self hp hd
theorem tA_ok {h : Ev.Heap} {x2 x6 : Sl} {T : List Nat} (hT : Sg 2700 T) : evE reprL Γ9 tA (en9 s0 x2 (.val (tx T)) (.val (.tup ((F 0 0 T).map mD))) (.val (.tup ((F 0 0 T).map mD))) x6) h = some (.ok (.bl false) h) := by
  obtain ⟨b1, b2, b3⟩ := F_bd T.length T 0 0 (Nat.le_refl _)
  have hl := hT.1
  have hr := rp_marks (ms := F 0 0 T) (fun m hm => by
    obtain ⟨q1, q2, q3⟩ := b1 m hm
    exact ⟨by omega, by omega, fun c hc => hT.2 c (q3 c hc)⟩) (by omega) (by omega)
  have hlt : T.length < LIM := Nat.lt_of_le_of_lt hl (by decide)
  generalize hms : F 0 0 T = ms at hr
  have g2 := G2_ok (h := h) hlt
  rw [hms] at g2
  refine xorF (Ev.x2 (x := .str (reprL.text (.tup (ms.map mD)))) (y := .str (reprL.text (.tup (ms.map mD)))) (x1 (x := .tup (ms.map mD)) rfl rfl hr) (x1 (x := .tup (ms.map mD)) rfl rfl hr) rfl rfl (ne_same rfl (Nat.zero_le _))) ?_
  exact Ev.x2 (x := .tup (ms.map mD)) (y := .tup (ms.map mD)) (xcallK (ds := [tx T]) (ds' := [tx T]) (xs_cons rfl xs_nil) rfl g2) rfl rfl rfl (ne_same (plains_m ms) (dp_marks ms))
theorem lim_J {T : List Nat} (hT : Sg 2700 T) : ((wds T).map (·.length)).sum + (wds T).length * 1 ≤ 5400 := by
  obtain ⟨b1, b2, b3⟩ := F_bd T.length T 0 0 (Nat.le_refl _)
  have hl := hT.1
  unfold wds
  rw [List.map_map, List.length_map]
  have : ((fun l : List Nat => l.length) ∘ fun m : Mk => m.2.2) = fun m : Mk => m.2.2.length := rfl
  rw [this]
  omega
theorem eJ_ok {h : Ev.Heap} {x2 x3 x5 x6 : Sl} {T : List Nat} (hT : Sg 2700 T) : evE reprL Γ9 eJ (en9 s0 x2 x3 (.val (.tup ((F 0 0 T).map mD))) x5 x6) h = some (.ok (tx (jn [32] (wds T))) h) := by
  refine Ev.x2 (x := tx [32]) (y := .lst ((wds T).map tx)) rfl (run_lc (s := .tup ((F 0 0 T).map mD)) rfl rfl (compW T)) rfl rfl (join_tx ?_)
  exact Nat.le_trans (lim_J hT) (by decide)
theorem tB_ok {h : Ev.Heap} {x2 x3 x5 : Sl} {T : List Nat} (hT : Sg 2700 T) : evE reprL Γ9 tB (en9 s0 x2 x3 (.val (.tup ((F 0 0 T).map mD))) x5 (.val (tx (jn [32] (wds T))))) h = some (.ok (.bl false) h) := by
  have hw : ∀ m ∈ wds T, word m := fun m hm => by
    obtain ⟨q, hq, rfl⟩ := List.mem_map.mp hm
    exact F_words T.length T 0 0 (Nat.le_refl _) q hq
  have hj : wds (jn [32] (wds T)) = wds T := F_jn (wds T) 0 0 hw
  have hjl : (jn [32] (wds T)).length < LIM := by
    have := jn_len [32] (wds T)
    have hq := lim_J hT
    rw [show ([32] : List Nat).length = 1 from rfl] at this
    exact Nat.lt_of_le_of_lt (Nat.le_trans this hq) (by decide)
  have g2 := G2_ok (h := h) hjl
  have e1 := run_lc (Γ := Γ9) (elt := .var 10) (tg := tg9) (cnd := []) (it := .call 2 [(.var 6)]) (env := en9 s0 x2 x3 (.val (.tup ((F 0 0 T).map mD))) x5 (.val (tx (jn [32] (wds T))))) (h := h) (xcall (ds := [tx (jn [32] (wds T))]) (xs_cons rfl xs_nil) g2) rfl (compW (jn [32] (wds T)))
  have e2 := run_lc (Γ := Γ9) (elt := .var 10) (tg := tg9) (cnd := []) (it := .view 4) (env := en9 s0 x2 x3 (.val (.tup ((F 0 0 T).map mD))) x5 (.val (tx (jn [32] (wds T))))) (h := h) (s := .tup ((F 0 0 T).map mD)) (h' := h) rfl rfl (compW T)
  rw [hj] at e1
  exact Ev.x2 e1 e2 rfl rfl (ne_same (plains_t _) (by show D.depths _ + 1 ≤ 64; rw [depths_t]; decide))
theorem turn9 {h : Ev.Heap} {x : D} {x2 x3 x4 x5 x6 : Sl} (hb : Dr.Box h) (a2 : Ev.isOwnSl (some x2) = false) (a3 : Ev.isOwnSl (some x3) = false) (a4 : Ev.isOwnSl (some x4) = false) (a5 : Ev.isOwnSl (some x5) = false) (a6 : Ev.isOwnSl (some x6) = false) :
    ∃ (d3 d4 d5 d6 : D) (h' : Ev.Heap), forTurn Γ9 (.name 2) body9 x (en9 s0 x2 x3 x4 x5 x6) h = some (.ok (.nx (en9 s0 (.val x) (.val d3) (.val d4) (.val d5) (.val d6))) h') ∧ Dr.Box h' := by
  obtain ⟨t, h1, e1, hb1, ht⟩ := text1 (s0 := s0) (x2 := .val x) (x3 := x3) (x4 := x4) (x5 := x5) (x6 := x6) hb
  obtain ⟨T, h2, e2, hb2, hT⟩ := text2 (s0 := s0) (x2 := .val x) (x4 := x4) (x5 := x5) (x6 := x6) hb1 ht
  have hlt : T.length < LIM := Nat.lt_of_le_of_lt hT.1 (by decide)
  have s1 : evS reprL Γ9 (.asg (.name 3) eW) (en9 s0 (.val x) x3 x4 x5 x6) h = some (.ok (.nx (en9 s0 (.val x) (.val (tx t)) x4 x5 x6)) h1) := run_asg e1 (setv a3)
  have s2 : evS reprL Γ9 (.asg (.name 3) eX) (en9 s0 (.val x) (.val (tx t)) x4 x5 x6) h1 = some (.ok (.nx (en9 s0 (.val x) (.val (tx T)) x4 x5 x6)) h2) := run_asg e2 rfl
  have s3 : evS reprL Γ9 (.asg (.name 4) (.op1 .tuple (.call 7 [(.var 3)]))) (en9 s0 (.val x) (.val (tx T)) x4 x5 x6) h2 = some (.ok (.nx (en9 s0 (.val x) (.val (tx T)) (.val (.tup ((F 0 0 T).map mD))) x5 x6)) h2) := run_asg (d := .tup ((F 0 0 T).map mD)) (x1 (x := .lst ((F 0 0 T).map mD)) (xcall (ds := [tx T]) (xs_cons rfl xs_nil) (G7_ok hlt)) rfl rfl) (setv a4)
  have s4 : evS reprL Γ9 (.asg (.name 5) (.call 2 [(.var 3)])) (en9 s0 (.val x) (.val (tx T)) (.val (.tup ((F 0 0 T).map mD))) x5 x6) h2 = some (.ok (.nx (en9 s0 (.val x) (.val (tx T)) (.val (.tup ((F 0 0 T).map mD))) (.val (.tup ((F 0 0 T).map mD))) x6)) h2) := run_asg (d := .tup ((F 0 0 T).map mD)) (xcall (ds := [tx T]) (xs_cons rfl xs_nil) (G2_ok hlt)) (setv a5)
  have s6 : evS reprL Γ9 (.asg (.name 6) eJ) (en9 s0 (.val x) (.val (tx T)) (.val (.tup ((F 0 0 T).map mD))) (.val (.tup ((F 0 0 T).map mD))) x6) h2 = some (.ok (.nx (en9 s0 (.val x) (.val (tx T)) (.val (.tup ((F 0 0 T).map mD))) (.val (.tup ((F 0 0 T).map mD))) (.val (tx (jn [32] (wds T)))))) h2) := run_asg (eJ_ok hT) (setv a6)
  refine ⟨tx T, .tup ((F 0 0 T).map mD), .tup ((F 0 0 T).map mD), tx (jn [32] (wds T)), h2, ?_, hb2⟩
  have ht : setTg (.name 2) x (en9 s0 x2 x3 x4 x5 x6) = some (en9 s0 (.val x) x3 x4 x5 x6) := setv a2
  show (match setTg (.name 2) x (en9 s0 x2 x3 x4 x5 x6) with | some env => _ | none => none) = _
  rw [ht]
  exact run_cons s1 (run_cons s2 (run_cons s3 (run_cons s4 (run_cons (run_ifF (tA_ok hT) run_nil) (run_cons s6 (run_cons (run_ifF (tB_ok hT) run_nil) run_nil))))))
theorem loop9 : ∀ (xs : List D) (h : Ev.Heap) (x2 x3 x4 x5 x6 : Sl), Dr.Box h → Ev.isOwnSl (some x2) = false → Ev.isOwnSl (some x3) = false → Ev.isOwnSl (some x4) = false → Ev.isOwnSl (some x5) = false → Ev.isOwnSl (some x6) = false →
    ∃ (env' : Ev.Env) (h' : Ev.Heap), forLoop (forTurn Γ9 (.name 2) body9) xs (en9 s0 x2 x3 x4 x5 x6) h = some (.ok (.nx env') h')
  | [], h, x2, x3, x4, x5, x6, _, _, _, _, _, _ => ⟨_, h, rfl⟩
  | x :: xs, h, x2, x3, x4, x5, x6, hb, a2, a3, a4, a5, a6 => by
    obtain ⟨d3, d4, d5, d6, h1, e, hb1⟩ := turn9 (s0 := s0) (x := x) hb a2 a3 a4 a5 a6
    obtain ⟨env', h', k⟩ := loop9 xs h1 (.val x) (.val d3) (.val d4) (.val d5) (.val d6) hb1 rfl rfl rfl rfl rfl
    exact ⟨env', h', loop_cons e k⟩
end
end K06
end

section
set_option Elab.async false
set_option linter.all false
set_option maxRecDepth 100000
namespace K06
open PySem L2 Ev
theorem told {s : Str} {ms : List Mk} {h : Ev.Heap} (hl : s.cps.toList.length < LIM) (e : (s.cps.toList.foldl lstep ([], 0, 0)).1.map cut3 = ms) : G2 [.str s] h = some (.ok (.tup (ms.map mD)) h) := by
  rw [← e, law_marks]
  exact G2_ok (l := s.cps.toList) hl
theorem told1 {h : Ev.Heap} : G2 [.str ""] h = some (.ok (.tup []) h) := told (ms := []) (by decide +kernel) (by decide +kernel)
theorem told2 {h : Ev.Heap} : G2 [.str "  "] h = some (.ok (.tup []) h) := told (ms := []) (by decide +kernel) (by decide +kernel)
theorem told3 {h : Ev.Heap} : G2 [.str " \n"] h = some (.ok (.tup [.tup [.int 0, .int 1, .str "\n"]]) h) := told (ms := [(0, 1, [10])]) (by decide +kernel) (by decide +kernel)
abbrev due4 : D := .tup [(.tup [(.int 0), (.int 0), (.str "wet")]), (.tup [(.int 0), (.int 4), (.str "2")]), (.tup [(.int 0), (.int 5), (.str "of")]), (.tup [(.int 0), (.int 7), (.str "\n")]), (.tup [(.int 1), (.int 0), (.str "12")]), (.tup [(.int 1), (.int 2), (.str "/")]), (.tup [(.int 1), (.int 3), (.str "0")]), (.tup [(.int 1), (.int 5), (.str "is")]), (.tup [(.int 1), (.int 7), (.str "3")])]
theorem told4 {h : Ev.Heap} : G2 [.str "wet 2of\n12/0 is3"] h = some (.ok due4 h) := told (ms := [(0, 0, [119, 101, 116]), (0, 4, [50]), (0, 5, [111, 102]), (0, 7, [10]), (1, 0, [49, 50]), (1, 2, [47]), (1, 3, [48]), (1, 5, [105, 115]), (1, 7, [51])]) (by decide +kernel) (by decide +kernel)
theorem turns_ok {Γ : Nat → List D → Ev.Heap → R D} {ns : List Int} {env : Ev.Env} {h : Ev.Heap} (h0 : Sl.see env[0]? = some (.lst (ns.map D.int))) : ∃ xs, evE reprL Γ (.op1 .range (.op2 .add (.cst (.int 3)) (.op2 .mul (.cst (.int 3)) (.op1 .int (.op2 .gt (.op1 .len (.view 0)) (.cst (.int 2))))))) env h = some (.ok (.lst xs) h) := by
  have hv : evE reprL Γ (.view 0) env h = some (.ok (.lst (ns.map D.int)) h) := by
    show lift h (Sl.see env[0]?) = _
    rw [h0]
    rfl
  have hg := x2 (Γ := Γ) (o := .gt) (b := .cst (.int 2)) (x1 (o := .len) hv rfl rfl) rfl rfl rfl rfl
  generalize decide ((2 : Int) < ((ns.map D.int).length : Nat)) = b at hg
  have hi := x1 (o := .int) hg rfl rfl
  cases b with
  | true => exact ⟨_, x1 (x2 (o := .add) rfl (x2 (o := .mul) (x := .int 3) rfl hi rfl rfl (mul_of (mulOk_left (by decide)))) rfl rfl rfl) rfl (range_nn (n := 6) (by decide))⟩
  | false => exact ⟨_, x1 (x2 (o := .add) rfl (x2 (o := .mul) (x := .int 3) rfl hi rfl rfl (mul_of (mulOk_left (by decide)))) rfl rfl rfl) rfl (range_nn (n := 3) (by decide))⟩
theorem c7 {env : Ev.Env} {h : Ev.Heap} : evE reprL Γ9 (.or (.op2 .ne (.call 2 [(.cst (.str ""))]) (.tup [])) (.or (.op2 .ne (.call 2 [(.cst (.str "  "))]) (.tup [])) (.op2 .ne (.call 2 [(.cst (.str " \n"))]) (.tup [(.tup [(.cst (.int 0)), (.cst (.int 1)), (.cst (.str "\n"))])])))) env h = some (.ok (.bl false) h) :=
  xorF (x2 (x := .tup []) (y := .tup []) (xcall (ds := [.str ""]) (xs_cons rfl xs_nil) told1) rfl rfl rfl rfl) (xorF (x2 (x := .tup []) (y := .tup []) (xcall (ds := [.str "  "]) (xs_cons rfl xs_nil) told2) rfl rfl rfl rfl) (x2 (x := .tup [.tup [.int 0, .int 1, .str "\n"]]) (y := .tup [.tup [.int 0, .int 1, .str "\n"]]) (xcall (ds := [.str " \n"]) (xs_cons rfl xs_nil) told3) rfl rfl rfl (ne_same rfl (by decide))))
theorem c8 {env : Ev.Env} {h : Ev.Heap} : evE reprL Γ9 (.op2 .eq (.call 2 [(.cst (.str "wet 2of\n12/0 is3"))]) (.tup [(.tup [(.cst (.int 0)), (.cst (.int 0)), (.cst (.str "wet"))]), (.tup [(.cst (.int 0)), (.cst (.int 4)), (.cst (.str "2"))]), (.tup [(.cst (.int 0)), (.cst (.int 5)), (.cst (.str "of"))]), (.tup [(.cst (.int 0)), (.cst (.int 7)), (.cst (.str "\n"))]), (.tup [(.cst (.int 1)), (.cst (.int 0)), (.cst (.str "12"))]), (.tup [(.cst (.int 1)), (.cst (.int 2)), (.cst (.str "/"))]), (.tup [(.cst (.int 1)), (.cst (.int 3)), (.cst (.str "0"))]), (.tup [(.cst (.int 1)), (.cst (.int 5)), (.cst (.str "is"))]), (.tup [(.cst (.int 1)), (.cst (.int 7)), (.cst (.str "3"))])])) env h = some (.ok (.bl true) h) :=
  x2 (x := due4) (y := due4) (xcall (ds := [.str "wet 2of\n12/0 is3"]) (xs_cons rfl xs_nil) told4) rfl rfl rfl (eq_self rfl (by decide))
theorem answers (ns : List Int) (hl : ns.length ≤ 63) : ∃ h, G9 [.lst (ns.map D.int)] [] = some (.ok (.bl true) h) := by
  obtain ⟨h0, e5, hb0⟩ := G3_ok ns
  obtain ⟨xs, ex⟩ := turns_ok (Γ := Γ9) (ns := ns) (env := en9 (.bor (.lst (ns.map D.int))) .none .none .none .none .none) (h := h0) rfl
  obtain ⟨env', h1, kO⟩ := loop9 (s0 := .bor (.lst (ns.map D.int))) xs h0 .none .none .none .none .none hb0 rfl rfl rfl rfl rfl
  have a1 : evS reprL Γ9 (.asg (.name 1) (.call 3 [(.view 0)])) (startEnv f9 [.lst (ns.map D.int)]) [] = some (.ok (.nx (en9 (.bor (.lst (ns.map D.int))) .none .none .none .none .none)) h0) := run_asg (d := .ref 1) (xcall (ds := [.lst (ns.map D.int)]) (xs_cons rfl xs_nil) e5) rfl
  exact ⟨h1, fn_ret (f := f9) rfl (run_cons a1 (run_cons (run_for ex rfl kO) (run_cons (run_ifF (h' := h1) c7 run_nil) (run_ret (run_retE c8)))))⟩
end K06
end

section
set_option Elab.async false
set_option linter.all false
set_option maxRecDepth 100000
open PySem PySem.W PyProof.Rows Ev L2 K06
/-! the whole -/
-- answers : ∀ ns : List Int, ns.length ≤ 63 → ∃ h, G9 [.lst (ns.map D.int)] [] = some (.ok (.bl true) h)
set_option maxHeartbeats 0 in
theorem PySem.Challenge.cw_allworlds_k06_marks_cut_and_joined_holds : PySem.Challenge.rw_allworlds_k06_marks_cut_and_joined.Holds := by
  w_on
  o_law
  k_head
  case hw => w_witness2
  k_fill
  letI : Ev.TabList := ⟨[]⟩
  refine Ev.walkG (l := PySem.Challenge.rw_allworlds_k06_marks_cut_and_joined) (n := 63) (k := 4) (x := "_law_script") (CX := CX0) (sp := fun K => spF K G9 [true]) rfl (by decide) rfl ⟨rfl, by decide, by decide⟩ (fun w h Y => PySem.W.kIn_of Y) ?F (fun K M a ns hl only sq => script_sp only sq (answers ns hl) fun p hp => by cases hp) (fun _ _ _ _ h => h)
  case F =>
    intro w mg fa h KX G hmg
    refine' law_mk hmg (ok9 (mo_mk KX G ?a0 ?l0 ?c0 ?k0 ?a1 ?l1 ?c1 ?k1 ?a2 ?l2 ?c2 ?k2 ?a3 ?l3 ?c3 ?k3 ?a4 ?l4 ?c4 ?k4 ?a5 ?l5 ?c5 ?k5 ?a6 ?l6 ?c6 ?k6 ?a7 ?l7 ?c7 ?k7 ?a8 ?l8 ?c8 ?k8 ?a9 ?l9 ?c9 ?k9 ?z0 ?z1 ?z2 ?z3 ?z4 ?z5 ?y0 ?y1))
    (case a0 => k_is); (case l0 => k_is); (case c0 => k_is); (case k0 => k_is); (case a1 => k_is); (case l1 => k_is); (case c1 => k_is); (case k1 => k_is); (case a2 => k_is); (case l2 => k_is); (case c2 => k_is); (case k2 => k_is); (case a3 => k_is); (case l3 => k_is); (case c3 => k_is); (case k3 => k_is); (case a4 => k_is); (case l4 => k_is); (case c4 => k_is); (case k4 => k_is); (case a5 => k_is); (case l5 => k_is); (case c5 => k_is); (case k5 => k_is); (case a6 => k_is); (case l6 => k_is); (case c6 => k_is); (case k6 => k_is); (case a7 => k_is); (case l7 => k_is); (case c7 => k_is); (case k7 => k_is); (case a8 => k_is); (case l8 => k_is); (case c8 => k_is); (case k8 => k_is); (case a9 => k_is); (case l9 => k_is); (case c9 => k_is); (case k9 => k_is); (case z0 => k_is); (case z1 => k_is); (case z2 => k_is); (case z3 => k_is); (case z4 => k_is); (case z5 => k_is); (case y0 => k_is); (case y1 => k_is)
end
