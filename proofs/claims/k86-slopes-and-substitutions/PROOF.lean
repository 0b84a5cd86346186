import PyProof.Rows.All
import Wide.All
import OpenK.AllK
import Wide.FinOn
import HandS.ForMost
import HandS.Wide
import HandS.IsInst
import HandS.Flow
import HandS.TupAny
import HandS.TupMul
import HandS.Rev
import HandS.Deep
import HandS.WideMore
import HandS.SortKw
import HandS.Strs
import HandS.Style
import KE.DataFind
import KE.DatumOrd
import KE.SortData
import HandS.Ends
import PySem.Challenge.RW_shiftwright_k86_whole_slopes_and_substit
set_option Elab.async false
set_option linter.all false
set_option maxRecDepth 100000
set_option Elab.async false
set_option linter.all false
set_option maxRecDepth 100000
namespace Px
open PySem L2

/-- data: what a value stands for -/
inductive D where
  | non | bl (b : Bool) | int (i : Int) | str (x : Str) | tup (xs : List D) | lst (xs : List D) | obj (c : Str) (ns : List Str) (xs : List D)
  deriving Inhabited
mutual
def D.beq : D → D → Bool
  | .non, .non => true
  | .bl a, .bl b => decide (a = b)
  | .int a, .int b => decide (a = b)
  | .str a, .str b => decide (a = b)
  | .tup a, .tup b => D.beqL a b
  | .lst a, .lst b => D.beqL a b
  | .obj c ns a, .obj d ms b => decide (c = d) && decide (ns = ms) && D.beqL a b
  | _, _ => false
def D.beqL : List D → List D → Bool
  | [], [] => true
  | x :: xs, y :: ys => D.beq x y && D.beqL xs ys
  | _, _ => false
end
mutual
theorem D.beq_iff : ∀ a b : D, D.beq a b = true ↔ a = b
  | .non, b => by cases b <;> simp [D.beq]
  | .bl a, b => by cases b <;> simp [D.beq]
  | .int a, b => by cases b <;> simp [D.beq]
  | .str a, b => by cases b <;> simp [D.beq]
  | .tup a, b => by cases b <;> simp [D.beq, D.beqL_iff a]
  | .lst a, b => by cases b <;> simp [D.beq, D.beqL_iff a]
  | .obj c ns a, b => by cases b <;> simp [D.beq, D.beqL_iff a, and_assoc]
theorem D.beqL_iff : ∀ a b : List D, D.beqL a b = true ↔ a = b
  | [], b => by cases b <;> simp [D.beqL]
  | x :: xs, b => by
    cases b with
    | nil => simp [D.beqL]
    | cons y ys => simp [D.beqL, D.beq_iff x y, D.beqL_iff xs ys]
end
instance : DecidableEq D := fun a b => decidable_of_iff _ (D.beq_iff a b)

/-- what is the frame's own and may change: a list, an instance that is being made -/
inductive Own where
  | lst (xs : List D) | ins (c : Str) (ns : List Str) (xs : List D)
  deriving DecidableEq, Inhabited
def Own.frz : Own → D
  | .lst xs => .lst xs
  | .ins c ns xs => .obj c ns xs
/-- a slot: data that stands still, or a thing of the frame's own -/
inductive Slot where
  | dat (d : D) | mo (w : Own)
  deriving DecidableEq, Inhabited
abbrev Slot.own (xs : List D) : Slot := .mo (.lst xs)

abbrev PEnv := List (Option Slot)

inductive Out (α : Type) where
  | ok (a : α) | bad
  deriving Inhabited

def Out.bind {α β : Type} : Out α → (α → Out β) → Out β
  | .ok a, f => f a
  | .bad, _ => .bad
def Out.of {α : Type} : Option α → Out α
  | some a => .ok a
  | none => .bad
theorem Out.bind_ok {α β : Type} {x : Out α} {f : α → Out β} {b : β} (h : x.bind f = .ok b) : ∃ a, x = .ok a ∧ f a = .ok b := by
  cases x with
  | ok a => exact ⟨a, rfl, h⟩
  | bad => cases h
theorem Out.of_ok {α : Type} {x : Option α} {a : α} (h : Out.of x = .ok a) : x = some a := by
  cases x with
  | some b => cases h; rfl
  | none => cases h

def Slot.frz : Slot → D
  | .dat d => d
  | .mo w => w.frz

/-- built-in functions and classes, called -/
inductive BI where
  | len | tuple | list | sum | all | any | max | min | abs | int | sorted
  deriving DecidableEq, Inhabited
def BI.nm : BI → String
  | .len => "len" | .tuple => "tuple" | .list => "list" | .sum => "sum" | .all => "all" | .any => "any" | .max => "max" | .min => "min" | .abs => "abs" | .int => "int" | .sorted => "sorted"
def BI.isTy : BI → Bool
  | .tuple => true | .list => true | .int => true
  | _ => false
inductive IT where
  | int | bool | str | list | tuple
  deriving DecidableEq, Inhabited
def IT.nm : IT → String
  | .int => "int" | .bool => "bool" | .str => "str" | .list => "list" | .tuple => "tuple"
/-- methods with one argument -/
inductive MT where
  | count | index
  deriving DecidableEq, Inhabited
def MT.nm : MT → String
  | .count => "count" | .index => "index"
/-- primitives; bid: f(x, default=d); trev: tuple(reversed(x)) -/
inductive P where
  | bin (op : Operator) | neg | cmp (op : CmpOp) | ix | sl (lo hi : Bool) | bi (f : BI) | mth (m : MT) | bid (f : BI) | trev | fld (f : Str) | srev | lrg | lset
  deriving DecidableEq, Inhabited

inductive IK where
  | rng | seq | brw (i : Nat) | rev | dk
  deriving DecidableEq, Inhabited

mutual
/-- expressions -/
inductive E where
  | var (i : Nat)
  | con (d : D)
  | prim (p : P) (as : List Ar)
  | dsp (tup : Bool) (es : List E)
  | bop (isAnd : Bool) (es : List E) | not (a : E)
  | ite (c : T) (a b : E)
  | call (f : Str) (as : List Ar)
  | comp (vs : List Nat) (tg : Bool × List Nat) (ik : IK) (ies : List E) (conds : List T) (elt : E)
  | pop (i : Nat) (front : Bool)
  | isi (a : Ar) (ty : IT)
  | make (c : Str) (es : List E) | meth (o : E) (m : Str) (es : List E) | oeq (neg : Bool) (a b : E) | isc (a : E) (c : Str)
  | chn (o p : CmpOp) (a b c : E)
  | comp2 (vs : List Nat) (tg : Bool × List Nat) (ik : IK) (ies : List E) (conds : List T) (vs1 : List Nat) (tg1 : Bool × List Nat) (ik1 : IK) (ies1 : List E) (conds1 : List T) (elt : E)
/-- tests -/
inductive T where
  | bop (isAnd : Bool) (ts : List T) | not (a : T) | val (a : Ar)
/-- operands: a slot that is read when all operands have come, or an expression -/
inductive Ar where
  | slot (i : Nat) | ex (e : E)
end
instance : Inhabited E := ⟨.var 0⟩
instance : Inhabited T := ⟨.val (.slot 0)⟩
instance : Inhabited Ar := ⟨.slot 0⟩

/-- an operand: a value, or a slot to be read when all operands have come -/
inductive Opd where
  | val (d : D) | slot (i : Nat)
  deriving Inhabited

abbrev Gfun := List Slot → Out (Slot × PEnv)
/-- what can be called: defs, methods by class and name, classes; the attributes that a class lets stand -/
structure Sig where
  fn : Str → Option Gfun
  mth : Str → Str → Option Gfun
  ini : Str → Option Gfun
  fld : Str → Str → Bool
instance : CoeFun Sig (fun _ => Str → Option Gfun) := ⟨Sig.fn⟩

def getS (ρ : PEnv) (i : Nat) : Option Slot := ρ.getD i none
def rdO (ρ : PEnv) : Opd → Option D
  | .val d => some d
  | .slot i => match getS ρ i with
    | some (.dat d) => some d
    | some (.mo (.lst xs)) => some (.lst xs)
    | _ => none
def rdAll (ρ : PEnv) : List Opd → Option (List D)
  | [] => some []
  | o :: os => match rdO ρ o, rdAll ρ os with
    | some d, some ds => some (d :: ds)
    | _, _ => none

def wipeP (ρ : PEnv) : List Nat → PEnv
  | [] => ρ
  | v :: vs => (wipeP ρ vs).set v none
/-- the slots vs as they stood in ρ0 -/
def backP (ρ0 ρ : PEnv) : List Nat → PEnv
  | [] => ρ
  | v :: vs => (backP ρ0 ρ vs).set v (getS ρ0 v)
def isOwn : Option Slot → Bool
  | some (.mo _) => true
  | _ => false

def isOwnL : Option Slot → Bool
  | some (.mo (.lst _)) => true
  | _ => false
/-! ### what primitives make of data -/
def lim : Nat := 16777216

def binI (op : Operator) (i j : Int) : Option Int :=
  match op with
  | .Add => some (i + j)
  | .Sub => some (i - j)
  | .Mult => if i.natAbs.log2 + j.natAbs.log2 < 1000000 then some (i * j) else none
  | .FloorDiv => if 0 < j ∧ j.natAbs.log2 < 9000 then some (i / j) else if j ≠ 0 ∧ j.natAbs < 1073741824 then some (i.fdiv j) else none
  | .Mod => if 0 < j then some (i % j) else if j ≠ 0 then some (i.fmod j) else none
  | .Pow => if 0 ≤ j ∧ j ≤ 1000000 ∧ i.natAbs < 2 ^ 64 then some (i ^ j.toNat) else none
  | .LShift => if 0 ≤ j ∧ j ≤ 1000000 ∧ i.natAbs < 2 ^ 64 then some (i * 2 ^ j.toNat) else none
  | .RShift => if 0 ≤ j then some (i / 2 ^ j.toNat) else none
  | .BitAnd => some (Builtin.bitAnd i j)
  | .BitOr => some (Builtin.bitOr i j)
  | .BitXor => some (Builtin.bitXor i j)
  | _ => none

/-- name op= e -/
def augF (op : Operator) : D → D → Option D
  | .int i, .int j => match op with
    | .Add => some (.int (i + j))
    | .Sub => some (.int (i - j))
    | .Mult => if i.natAbs.log2 + j.natAbs.log2 < 1000000 then some (.int (i * j)) else none
    | .FloorDiv => if 0 < j ∧ j.natAbs.log2 < 9000 then some (.int (i / j)) else none
    | .Mod => if 0 < j then some (.int (i % j)) else none
    | .RShift => if 0 ≤ j then some (.int (i / 2 ^ j.toNat)) else none
    | _ => none
  | .tup xs, .tup ys => match op with
    | .Add => if xs.length + ys.length ≤ lim then some (.tup (xs ++ ys)) else none
    | _ => none
  | _, _ => none

def repL (xs : List D) (k : Int) : List D := (List.replicate k.toNat xs).flatten

def binF (op : Operator) : D → D → Option D
  | .int i, .int j => (binI op i j).map .int
  | .tup xs, .tup ys => if op = .Add ∧ xs.length + ys.length ≤ lim then some (.tup (xs ++ ys)) else none
  | .lst xs, .lst ys => if op = .Add ∧ xs.length + ys.length ≤ lim then some (.lst (xs ++ ys)) else none
  | .tup xs, .int k => if op = .Mult ∧ -1000 ≤ k ∧ k ≤ 1000 ∧ xs.length ≤ 1000 then some (.tup (repL xs k)) else none
  | .lst xs, .int k => if op = .Mult ∧ -(2 ^ 62) < k ∧ k < 2 ^ 62 ∧ xs.length * k.toNat ≤ lim then some (.lst (repL xs k)) else none
  | _, _ => none

/-- stands for what == must not look at: too deep -/
def deepPy : Nat → PyData
  | 0 => .none
  | n + 1 => .list [deepPy n]
/-- data without objects, to == -/
def D.py : D → PyData
  | .non => .none
  | .bl b => .bool b
  | .int i => .int i
  | .str x => .str x
  | .tup xs => .tuple (pyAll xs)
  | .lst xs => .list (pyAll xs)
  | .obj _ _ _ => deepPy 70
where pyAll : List D → List PyData
  | [] => []
  | d :: ds => d.py :: pyAll ds

def eqF (a b : D) : Option Bool := if SeqAt.shaped a.py = true ∧ SeqAt.shaped b.py = true then some (PyData.eqv a.py b.py) else none

def intsOf : List D → Option (List Int)
  | [] => some []
  | .int i :: r => (intsOf r).map (i :: ·)
  | _ :: _ => none
def blsOf : List D → Option (List Bool)
  | [] => some []
  | .bl i :: r => (blsOf r).map (i :: ·)
  | _ :: _ => none
def inF (neg : Bool) (x : D) (xs : List D) : Option Bool :=
  if SeqAt.shaped x.py = true ∧ SeqAt.shaped (PyData.list (D.py.pyAll xs)) = true then
    some (if neg then !((D.py.pyAll xs).any fun y => PyData.eqv y x.py) else ((D.py.pyAll xs).any fun y => PyData.eqv y x.py))
  else none

def cmpF (op : CmpOp) (a b : D) : Option Bool :=
  match op, a, b with
  | .Eq, a, b => eqF a b
  | .NotEq, a, b => (eqF a b).map (!·)
  | .Is, a, .non => some (decide (a = .non))
  | .IsNot, a, .non => some (!decide (a = .non))
  | .Is, a, .bl c => some (decide (a = .bl c))
  | .IsNot, a, .bl c => some (!decide (a = .bl c))
  | .Lt, .int i, .int j => some (decide (i < j))
  | .LtE, .int i, .int j => some (decide (i ≤ j))
  | .Gt, .int i, .int j => some (decide (j < i))
  | .GtE, .int i, .int j => some (decide (j ≤ i))
  | .Lt, .tup xs, .tup ys => match intsOf xs, intsOf ys with
    | some ns, some ms => some (HT.lexLt ns ms)
    | _, _ => none
  | .In, x, .tup xs => inF false x xs
  | .In, x, .lst xs => inF false x xs
  | .NotIn, x, .tup xs => inF true x xs
  | .NotIn, x, .lst xs => inF true x xs
  | _, _, _ => none

def ixF : D → D → Option D
  | .tup xs, .int i => atI xs i
  | .lst xs, .int i => atI xs i
  | _, _ => none

def cutL (xs : List D) (lo hi : Option Int) : List D := (xs.drop (HT.sIx xs.length 0 lo)).take (HT.sIx xs.length xs.length hi - HT.sIx xs.length 0 lo)
def slF (lo hi : Option Int) : D → Option D
  | .tup xs => some (.tup (cutL xs lo hi))
  | .lst xs => some (.lst (cutL xs lo hi))
  | _ => none

def maxL : List Int → Option Int
  | [] => none
  | x :: xs => some (xs.foldl (fun m y => if m < y then y else m) x)
def minL : List Int → Option Int
  | [] => none
  | x :: xs => some (xs.foldl (fun m y => if y < m then y else m) x)

/-- ordered data -/
def datLt (a b : D) : Bool := PySem.W.dataLt a.py b.py
def alikeB (xs : List D) : Bool := (xs.all fun a => xs.all fun b => PySem.W.alike a.py b.py) && (xs.all fun a => !decide (a = .non)) && decide (PyData.depthAll (D.py.pyAll xs) ≤ 60)
def tupNE : D → Bool
  | .tup (_ :: _) => true
  | _ => false
def notTN : D → Bool
  | .non => false
  | .tup _ => false
  | _ => true
def okSort (xs : List D) : Bool := alikeB xs && (xs.all tupNE || xs.all notTN) && decide (xs.length ≤ lim)
def srtD (xs : List D) : List D := xs.mergeSort fun a b => !datLt b a
def minDF : List D → Option D
  | [] => none
  | x :: xs => if alikeB (x :: xs) = true then some (xs.foldl (fun a y => if datLt y a then y else a) x) else none
def maxDF : List D → Option D
  | [] => none
  | x :: xs => if alikeB (x :: xs) = true then some (xs.foldl (fun a y => if datLt a y then y else a) x) else none
def cntF (xs : List D) (d : D) : Option D := if PyData.plainAll (D.py.pyAll xs) = true ∧ d.py.plain = true ∧ SeqAt.shaped d.py = true ∧ SeqAt.shaped (PyData.list (D.py.pyAll xs)) = true then some (.int (((D.py.pyAll xs).countP fun y => PyData.eqv y d.py : Nat) : Int)) else none
def idxF (xs : List D) (d : D) : Option D := if SeqAt.shaped d.py = true ∧ SeqAt.shaped (PyData.list (D.py.pyAll xs)) = true then ((D.py.pyAll xs).findIdx? fun y => PyData.eqv y d.py).map fun j => .int (j : Nat) else none
def idxPF (xs : List D) (d : D) : Option D := if PyData.plainAll (D.py.pyAll xs) = true ∧ d.py.plain = true ∧ SeqAt.shaped d.py = true ∧ SeqAt.shaped (PyData.list (D.py.pyAll xs)) = true then ((D.py.pyAll xs).findIdx? fun y => PyData.eqv y d.py).map fun j => .int (j : Nat) else none
def mthF : MT → D → D → Option D
  | .count, .lst xs, d => cntF xs d
  | .index, .lst xs, d => idxF xs d
  | .count, .tup xs, d => cntF xs d
  | .index, .tup xs, d => idxPF xs d
  | _, _, _ => none

def biF : BI → List D → Option D
  | .len, [.tup xs] => some (.int xs.length)
  | .len, [.lst xs] => some (.int xs.length)
  | .tuple, [.tup xs] => some (.tup xs)
  | .tuple, [.lst xs] => some (.tup xs)
  | .list, [.tup xs] => some (.lst xs)
  | .list, [.lst xs] => some (.lst xs)
  | .sum, [.lst xs] => (intsOf xs).map fun ns => .int ns.sum
  | .sum, [.tup xs] => (intsOf xs).map fun ns => .int ns.sum
  | .all, [.lst xs] => (blsOf xs).map fun bs => .bl (bs.all id)
  | .any, [.lst xs] => (blsOf xs).map fun bs => .bl (bs.any id)
  | .max, [.lst xs] => match intsOf xs with
    | some ns => (maxL ns).map .int
    | none => maxDF xs
  | .min, [.lst xs] => match intsOf xs with
    | some ns => (minL ns).map .int
    | none => minDF xs
  | .sorted, [.lst xs] => if okSort xs = true then some (.lst (srtD xs)) else none
  | .max, [.int i, .int j] => some (.int (if j > i then j else i))
  | .min, [.int i, .int j] => some (.int (if j < i then j else i))
  | .abs, [.int i] => some (.int (if i < 0 then -i else i))
  | .int, [.int i] => some (.int i)
  | .int, [.bl b] => some (.int (if b then 1 else 0))
  | _, _ => none

def bidF : BI → D → D → Option D
  | .min, .lst xs, d => match xs with
    | [] => some d
    | x :: r => minDF (x :: r)
  | .max, .lst xs, d => match xs with
    | [] => some d
    | x :: r => maxDF (x :: r)
  | _, _, _ => none
def primF : P → List D → Option D
  | .bin op, [a, b] => binF op a b
  | .neg, [.int i] => some (.int (-i))
  | .cmp op, [a, b] => (cmpF op a b).map .bl
  | .ix, [a, b] => ixF a b
  | .sl false false, [a] => slF none none a
  | .sl true false, [a, .int i] => slF (some i) none a
  | .sl false true, [a, .int j] => slF none (some j) a
  | .sl true true, [a, .int i, .int j] => slF (some i) (some j) a
  | .bi f, ds => biF f ds
  | .mth m, [a, b] => mthF m a b
  | .bid f, [a, b] => bidF f a b
  | .trev, [.lst xs] => some (.tup xs.reverse)
  | .fld f, [.obj _ ns xs] => (ns.zip xs).lookup f
  | .srev, [.lst xs] => some (.lst xs.reverse)
  | .srev, [.tup xs] => some (.tup xs.reverse)
  | _, _ => none

/-- the primitives whose lists are new -/
def freshP : P → Bool
  | .bin _ => true
  | .sl _ _ => true
  | .bi .list => true
  | .bi .sorted => true
  | .srev => true
  | .lrg => true
  | _ => false

def truD : D → Option Bool
  | .non => some false
  | .bl b => some b
  | .int i => some (i != 0)
  | .str x => none
  | .tup xs => some (!xs.isEmpty)
  | .lst xs => some (!xs.isEmpty)
  | .obj _ _ _ => none

def isiF : D → IT → Bool
  | .bl _, .bool => true
  | .bl _, .int => true
  | .int _, .int => true
  | .str _, .str => true
  | .tup _, .tuple => true
  | .lst _, .list => true
  | _, _ => false

def D.isObj : D → Bool
  | .obj _ _ _ => true
  | _ => false
@[simp] theorem isObj_non : D.isObj .non = false := rfl
@[simp] theorem isObj_bl {b : Bool} : D.isObj (.bl b) = false := rfl
@[simp] theorem isObj_int {i : Int} : D.isObj (.int i) = false := rfl
@[simp] theorem isObj_str {x : Str} : D.isObj (.str x) = false := rfl
@[simp] theorem isObj_tup {xs : List D} : D.isObj (.tup xs) = false := rfl
@[simp] theorem isObj_lst {xs : List D} : D.isObj (.lst xs) = false := rfl
/-! ### iterations -/
def rngItems (lo hi : Int) : List D := (List.range (hi - lo).toNat).map fun k => .int (lo + (k : Nat))
def okRng (i : Int) : Bool := decide (-(2 ^ 62) ≤ i) && decide (i < 2 ^ 62)
def rngOf : List D → Option (List D)
  | [.int hi] => if okRng hi then some (rngItems 0 hi) else none
  | [.int lo, .int hi] => if okRng lo && okRng hi then some (rngItems lo hi) else none
  | _ => none
def seqOf : List D → Option (List D)
  | [.tup xs] => some xs
  | [.lst xs] => some xs
  | _ => none
/-- the target: one name, or a tuple of names -/
def setT (ρ : PEnv) : Bool × List Nat → D → Option PEnv
  | (false, [i]), d => some (ρ.set i (some (.dat d)))
  | (true, is), .tup ds => if is.length = ds.length then some (go ρ is ds) else none
  | _, _ => none
where go (ρ : PEnv) : List Nat → List D → PEnv
  | i :: is, d :: ds => go (ρ.set i (some (.dat d))) is ds
  | _, _ => ρ

def argS (ρ : PEnv) : List Opd → Option (List Slot)
  | [] => some []
  | .val d :: r => (argS ρ r).map (.dat d :: ·)
  | .slot i :: r => match getS ρ i with
    | some (.mo w) => (argS ρ r).map (.mo w :: ·)
    | _ => none
/-- the arguments' lists, written back -/
def backA (outs : PEnv) (k : Nat) : List Opd → PEnv → Option PEnv
  | [], ρ => some ρ
  | .val _ :: r, ρ => backA outs (k + 1) r ρ
  | .slot i :: r, ρ => match getS outs k with
    | some (.mo w) => backA outs (k + 1) r (ρ.set i (some (.mo w)))
    | _ => none
def slotsOf : List Opd → List Nat
  | [] => []
  | .val _ :: r => slotsOf r
  | .slot i :: r => i :: slotsOf r

/-- one clause's items, step by step: each turn gives at most one item -/
def compL (f : D → PEnv → Out (List D × PEnv)) : List D → PEnv → Out (List D × PEnv)
  | [], ρ => .ok ([], ρ)
  | x :: xs, ρ => (f x ρ).bind fun r => (compL f xs r.2).bind fun q => .ok (r.1 ++ q.1, q.2)

/-- the keys of pairs -/
def keysI : List D → Option (List Int)
  | [] => some []
  | .tup [.int k, _] :: r => (keysI r).map (k :: ·)
  | _ :: _ => none
/-- each once, where it comes first -/
def nubI (ks : List Int) : List Int := ks.foldl (fun acc k => if acc.contains k then acc else acc ++ [k]) []
def itemsOf (ρ : PEnv) : IK → List D → Option (List D)
  | .rng, ds => rngOf ds
  | .seq, ds => seqOf ds
  | .rev, ds => (seqOf ds).map List.reverse
  | .dk, [.lst ps] => (keysI ps).map fun ks => (nubI ks).map D.int
  | .brw i, [] => match getS ρ i with
    | some (.mo (.lst xs)) => some xs
    | _ => none
  | _, _ => none
def isBrw : IK → Bool
  | .brw _ => true
  | _ => false
/-- the list that is walked stands as it stood -/
def sameB (ik : IK) (ρ0 ρ : PEnv) : Bool :=
  match ik with
  | .brw i => decide (getS ρ0 i = getS ρ i)
  | _ => true

/-- a call -/
def callR (g : Option Gfun) (o : PEnv → Out (List Opd × PEnv)) (ρ : PEnv) : Out (Slot × PEnv) :=
  match g with
  | none => .bad
  | some g => (o ρ).bind fun q => (Out.of (argS q.2 q.1)).bind fun ss => (g ss).bind fun r =>
    if (slotsOf q.1).Nodup then (Out.of (backA r.2 0 q.1 q.2)).bind fun ρ2 => .ok (r.1, ρ2) else .bad

/-- o.m(..) -/
def methR (G : Sig) (d : D) (m : Str) (ds : List D) : Out Slot :=
  match d with
  | .obj c ns xs => if ns.contains m = true then .bad else match G.mth c m with
    | some g => (g (.dat (.obj c ns xs) :: ds.map .dat)).bind fun r => .ok r.1
    | none => .bad
  | _ => .bad
/-- C(..) -/
def makeR (G : Sig) (c : Str) (ds : List D) : Out D :=
  match G.ini c with
  | none => .bad
  | some g => (g (.mo (.ins c [] []) :: ds.map .dat)).bind fun r => match r.1, getS r.2 0 with
    | .dat .non, some (.mo (.ins c' ns xs)) => if c' = c then .ok (.obj c ns xs) else .bad
    | _, _ => .bad
/-- == by the class's own __eq__ -/
def oeqR (G : Sig) (d e : D) : Out Bool :=
  match d, e with
  | .obj c ns xs, .obj c' ns' xs' => match G.mth c "__eq__" with
    | some g => if c = c' then (g [.dat (.obj c ns xs), .dat (.obj c' ns' xs')]).bind fun r => match r.1 with
      | .dat (.bl t) => .ok t
      | _ => .bad
      else .bad
    | none => .bad
  | _, _ => .bad

mutual
def ev (G : Sig) : E → PEnv → Out (D × PEnv)
  | .var i, ρ => match getS ρ i with
    | some (.dat d) => .ok (d, ρ)
    | some (.mo (.lst xs)) => .ok (.lst xs, ρ.set i (some (.dat (.lst xs))))
    | _ => .bad
  | .con d, ρ => .ok (d, ρ)
  | .prim p as, ρ => (opnds G as ρ).bind fun q => (Out.of (rdAll q.2 q.1)).bind fun ds => (Out.of (primF p ds)).bind fun d => .ok (d, q.2)
  | .dsp b es, ρ => (evs G es ρ).bind fun q => if q.1.length ≤ lim then .ok (if b then .tup q.1 else .lst q.1, q.2) else .bad
  | .bop c es, ρ => evB G c es ρ
  | .not a, ρ => (ev G a ρ).bind fun q => match q.1 with
    | .bl b => .ok (.bl (!b), q.2)
    | _ => .bad
  | .ite c a b, ρ => (evT G c ρ).bind fun q => match q.1 with
    | true => ev G a q.2
    | false => ev G b q.2
  | .call f as, ρ => (callR (G f) (fun ρ => opnds G as ρ) ρ).bind fun r => .ok (r.1.frz, r.2)
  | .comp vs tg ik ies conds elt, ρ => (evs G ies ρ).bind fun q =>
      (Out.of (itemsOf q.2 ik q.1)).bind fun items =>
      if (vs.all fun v => !isOwn (getS q.2 v)) = true then
        (compL (fun x ρ1 => (Out.of (setT ρ1 tg x)).bind fun ρ2 => (evC G true conds ρ2).bind fun t => match t.1 with
          | true => (ev G elt t.2).bind fun r => if sameB ik q.2 r.2 = true then .ok ([r.1], wipeP r.2 vs) else .bad
          | false => if sameB ik q.2 t.2 = true then .ok ([], wipeP t.2 vs) else .bad) items (wipeP q.2 vs)).bind fun r =>
        if r.1.length < lim then .ok (.lst r.1, backP q.2 r.2 vs) else .bad
      else .bad
  | .comp2 vs tg ik ies conds vs1 tg1 ik1 ies1 conds1 elt, ρ => (evs G ies ρ).bind fun q =>
      (Out.of (itemsOf q.2 ik q.1)).bind fun items =>
      if (vs.all fun v => !isOwn (getS q.2 v)) = true ∧ isBrw ik = false ∧ isBrw ik1 = false then
        (compL (fun x ρ1 => (Out.of (setT ρ1 tg x)).bind fun ρ2 => (evC G true conds ρ2).bind fun t => match t.1 with
          | true => (evs G ies1 t.2).bind fun q1 => (Out.of (itemsOf q1.2 ik1 q1.1)).bind fun items1 =>
              (compL (fun y ρ3 => (Out.of (setT ρ3 tg1 y)).bind fun ρ4 => (evC G true conds1 ρ4).bind fun u => match u.1 with
                | true => (ev G elt u.2).bind fun r => .ok ([r.1], wipeP r.2 vs1)
                | false => .ok ([], wipeP u.2 vs1)) items1 (wipeP q1.2 vs1)).bind fun r => .ok (r.1, wipeP r.2 vs)
          | false => .ok ([], wipeP t.2 vs)) items (wipeP q.2 vs)).bind fun r =>
        if r.1.length < lim then .ok (.lst r.1, backP q.2 r.2 vs) else .bad
      else .bad
  | .pop i front, ρ => match getS ρ i with
    | some (.mo (.lst xs)) => match front with
      | true => match xs with
        | x :: r => .ok (x, ρ.set i (some (.own r)))
        | [] => .bad
      | false => match xs.getLast? with
        | some x => .ok (x, ρ.set i (some (.own xs.dropLast)))
        | none => .bad
    | _ => .bad
  | .isi a ty, ρ => (opnd G a ρ).bind fun q => (Out.of (rdO q.2 q.1)).bind fun d => if d.isObj = true then .bad else .ok (.bl (isiF d ty), q.2)
  | .make c es, ρ => (evs G es ρ).bind fun q => (makeR G c q.1).bind fun d => .ok (d, q.2)
  | .meth o m es, ρ => (ev G o ρ).bind fun q => (evs G es q.2).bind fun r => (methR G q.1 m r.1).bind fun s => .ok (s.frz, r.2)
  | .oeq neg a b, ρ => (ev G a ρ).bind fun q => (ev G b q.2).bind fun r => (oeqR G q.1 r.1).bind fun t => .ok (.bl (t != neg), r.2)
  | .isc a c, ρ => (ev G a ρ).bind fun q => match q.1 with
    | .obj c' _ _ => if c' = c ∧ (G.ini c).isSome = true then .ok (.bl true, q.2) else .bad
    | _ => .bad
  | .chn o p a b c, ρ => (ev G a ρ).bind fun q => (ev G b q.2).bind fun r => (Out.of (cmpF o q.1 r.1)).bind fun t => match t with
    | false => .ok (.bl false, r.2)
    | true => (ev G c r.2).bind fun s => (Out.of (cmpF p r.1 s.1)).bind fun u => .ok (.bl u, s.2)
def evT (G : Sig) : T → PEnv → Out (Bool × PEnv)
  | .bop c ts, ρ => evC G c ts ρ
  | .not a, ρ => (evT G a ρ).bind fun q => .ok (!q.1, q.2)
  | .val a, ρ => (opnd G a ρ).bind fun q => (Out.of (rdO q.2 q.1)).bind fun d => (Out.of (truD d)).bind fun t => .ok (t, q.2)
def opnd (G : Sig) : Ar → PEnv → Out (Opd × PEnv)
  | .slot i, ρ => match getS ρ i with
    | some _ => .ok (.slot i, ρ)
    | none => .bad
  | .ex e, ρ => (ev G e ρ).bind fun q => .ok (.val q.1, q.2)
def opnds (G : Sig) : List Ar → PEnv → Out (List Opd × PEnv)
  | [], ρ => .ok ([], ρ)
  | e :: es, ρ => (opnd G e ρ).bind fun q => (opnds G es q.2).bind fun r => .ok (q.1 :: r.1, r.2)
def evs (G : Sig) : List E → PEnv → Out (List D × PEnv)
  | [], ρ => .ok ([], ρ)
  | e :: es, ρ => (ev G e ρ).bind fun q => (evs G es q.2).bind fun r => .ok (q.1 :: r.1, r.2)
def evC (G : Sig) (c : Bool) : List T → PEnv → Out (Bool × PEnv)
  | [], ρ => .ok (c, ρ)
  | t :: ts, ρ => (evT G t ρ).bind fun q => if q.1 = c then evC G c ts q.2 else .ok (q.1, q.2)
def evB (G : Sig) (c : Bool) : List E → PEnv → Out (D × PEnv)
  | [], _ => .bad
  | e :: es, ρ => (ev G e ρ).bind fun q => match es with
    | [] => .ok q
    | _ :: _ => match q.1 with
      | .bl b => if b = c then evB G c es q.2 else .ok (.bl b, q.2)
      | _ => .bad
end

/-- where a list of the frame's own may come: the value of an assignment, of a return -/
def evo (G : Sig) : E → PEnv → Out (Slot × PEnv)
  | .var i, ρ => match getS ρ i with
    | some (.dat d) => .ok (.dat d, ρ)
    | some (.mo (.lst xs)) => .ok (.own xs, ρ.set i none)
    | _ => .bad
  | .call f as, ρ => callR (G f) (fun ρ => opnds G as ρ) ρ
  | .meth o m es, ρ => (ev G o ρ).bind fun q => (evs G es q.2).bind fun r => (methR G q.1 m r.1).bind fun s => .ok (s, r.2)
  | .dsp false es, ρ => (ev G (.dsp false es) ρ).bind fun q => match q.1 with
    | .lst xs => .ok (.own xs, q.2)
    | _ => .bad
  | .comp vs tg ik ies conds elt, ρ => (ev G (.comp vs tg ik ies conds elt) ρ).bind fun q => match q.1 with
    | .lst xs => .ok (.own xs, q.2)
    | _ => .bad
  | .comp2 vs tg ik ies conds vs1 tg1 ik1 ies1 conds1 elt, ρ => (ev G (.comp2 vs tg ik ies conds vs1 tg1 ik1 ies1 conds1 elt) ρ).bind fun q => match q.1 with
    | .lst xs => .ok (.own xs, q.2)
    | _ => .bad
  | .prim p as, ρ => (ev G (.prim p as) ρ).bind fun q => match freshP p, q.1 with
    | true, .lst xs => .ok (.own xs, q.2)
    | _, d => .ok (.dat d, q.2)
  | e, ρ => (ev G e ρ).bind fun q => .ok (.dat q.1, q.2)

/-- a value, by the way that is asked -/
def evc (G : Sig) (own : Bool) (e : E) (ρ : PEnv) : Out (Slot × PEnv) :=
  match own with
  | true => evo G e ρ
  | false => (ev G e ρ).bind fun q => .ok (.dat q.1, q.2)
/-! ### statements -/
inductive S where
  | set (own : Bool) (i : Nat) (e : E)
  | upk (is : List Nat) (e : E)
  | par (oi : Bool) (i : Nat) (oj : Bool) (j : Nat) (a b : E)
  | aug (i : Nat) (op : Operator) (e : E)
  | seti (i : Nat) (ix e : E)
  | app (i : Nat) (e : E)
  | drop (e : E)
  | ret (e : E)
  | retN
  | ite (c : T) (a b : List S)
  | loop (tg : Bool × List Nat) (ik : IK) (ies : List E) (body : List S)
  | whil (c : T) (body : List S)
  | brk | cnt | nop | never
  | junk (i : Nat) (a b : E)
  | ext (i : Nat) (e : E)
  | setf (i : Nat) (f : Str) (e : E)
  | swp (i : Nat) (i1 : E) (j : Nat) (i2 : E) (e : E)
instance : Inhabited S := ⟨.nop⟩

inductive Flw where
  | nx | brk | cnt | ret (s : Slot)
  deriving Inhabited

def forL (f : D → PEnv → Out (Flw × PEnv)) : List D → PEnv → Out (Flw × PEnv)
  | [], ρ => .ok (.nx, ρ)
  | x :: xs, ρ => (f x ρ).bind fun r => match r.1 with
    | .nx => forL f xs r.2
    | .cnt => forL f xs r.2
    | .brk => .ok (.nx, r.2)
    | .ret s => .ok (.ret s, r.2)
def whileL (c : PEnv → Out (Bool × PEnv)) (b : PEnv → Out (Flw × PEnv)) : Nat → PEnv → Out (Flw × PEnv)
  | 0, _ => .bad
  | n + 1, ρ => (c ρ).bind fun q => match q.1 with
    | false => .ok (.nx, q.2)
    | true => (b q.2).bind fun r => match r.1 with
      | .nx => whileL c b n r.2
      | .cnt => whileL c b n r.2
      | .brk => .ok (.nx, r.2)
      | .ret s => .ok (.ret s, r.2)
def wlim : Nat := 1000000

def setAt (xs : List D) (i : Int) (d : D) : Option (List D) := (ixN xs.length i).map fun j => xs.set j d

mutual
/-- the slots that a statement stores to -/
def wr : S → List Nat
  | .set _ i _ => [i]
  | .upk is _ => is
  | .par _ i _ j _ _ => [i, j]
  | .aug i _ _ => [i]
  | .ite _ a b => wrs a ++ wrs b
  | .loop tg _ _ body => tg.2 ++ wrs body
  | .whil _ body => wrs body
  | .junk i _ _ => [i]
  | _ => []
def wrs : List S → List Nat
  | [] => []
  | s :: ss => wr s ++ wrs ss
end
/-- a list of the frame's own that is walked: its name is not stored to meanwhile -/
def freeB (ik : IK) (ws : List Nat) : Bool :=
  match ik with
  | .brw i => !ws.contains i
  | _ => true

/-- x[i] = d, d there already -/
def setIx (G : Sig) (i : Nat) (ix : E) (d : D) (ρ : PEnv) : Out PEnv :=
  if isOwnL (getS ρ i) = true then (ev G ix ρ).bind fun r => match getS r.2 i, r.1 with
    | some (.mo (.lst xs)), .int k => (Out.of (setAt xs k d)).bind fun ys => .ok (r.2.set i (some (.own ys)))
    | _, _ => .bad
  else .bad
mutual
def ex (G : Sig) : S → PEnv → Out (Flw × PEnv)
  | .set own i e, ρ => match own with
    | true => (evo G e ρ).bind fun q => .ok (.nx, q.2.set i (some q.1))
    | false => (ev G e ρ).bind fun q => .ok (.nx, q.2.set i (some (.dat q.1)))
  | .upk is e, ρ => (ev G e ρ).bind fun q => (Out.of (setT q.2 (true, is) q.1)).bind fun ρ2 => .ok (.nx, ρ2)
  | .par oi i oj j a b, ρ => (evc G oi a ρ).bind fun q => (evc G oj b q.2).bind fun r => .ok (.nx, (r.2.set i (some q.1)).set j (some r.1))
  | .aug i op e, ρ => match getS ρ i with
    | some (.dat d) => (ev G e ρ).bind fun q => (Out.of (augF op d q.1)).bind fun z => .ok (.nx, q.2.set i (some (.dat z)))
    | _ => .bad
  | .seti i ix e, ρ => (ev G e ρ).bind fun q => if isOwnL (getS q.2 i) = true then (ev G ix q.2).bind fun r => match getS r.2 i, r.1 with
    | some (.mo (.lst xs)), .int k => (Out.of (setAt xs k q.1)).bind fun ys => .ok (.nx, r.2.set i (some (.own ys)))
    | _, _ => .bad
    else .bad
  | .app i e, ρ => if isOwnL (getS ρ i) = true then (ev G e ρ).bind fun q => match getS q.2 i with
    | some (.mo (.lst xs)) => if xs.length < lim then .ok (.nx, q.2.set i (some (.own (xs ++ [q.1])))) else .bad
    | _ => .bad
    else .bad
  | .drop e, ρ => (ev G e ρ).bind fun q => .ok (.nx, q.2)
  | .ret e, ρ => (evo G e ρ).bind fun q => .ok (.ret q.1, q.2)
  | .retN, ρ => .ok (.ret (.dat .non), ρ)
  | .ite c a b, ρ => (evT G c ρ).bind fun q => match q.1 with
    | true => exs G a q.2
    | false => exs G b q.2
  | .loop tg ik ies body, ρ => (evs G ies ρ).bind fun q => (Out.of (itemsOf q.2 ik q.1)).bind fun items =>
      if freeB ik (tg.2 ++ wrs body) = true then
        forL (fun x ρ1 => (Out.of (setT ρ1 tg x)).bind fun ρ2 => (exs G body ρ2).bind fun r => if sameB ik q.2 r.2 = true then .ok r else .bad) items q.2
      else .bad
  | .whil c body, ρ => whileL (evT G c) (exs G body) wlim ρ
  | .brk, ρ => .ok (.brk, ρ)
  | .cnt, ρ => .ok (.cnt, ρ)
  | .nop, ρ => .ok (.nx, ρ)
  | .never, _ => .bad
  | .ext i e, ρ => if isOwnL (getS ρ i) = true then (evo G e ρ).bind fun q => match q.1, getS q.2 i with
    | .mo (.lst ys), some (.mo (.lst xs)) => if xs.length + ys.length ≤ lim then .ok (.nx, q.2.set i (some (.own (xs ++ ys)))) else .bad
    | _, _ => .bad
    else .bad
  | .setf i f e, ρ => (ev G e ρ).bind fun q => match getS q.2 i with
    | some (.mo (.ins c ns xs)) => if G.fld c f = true ∧ ns.contains f = false ∧ ns.length < 900 then .ok (.nx, q.2.set i (some (.mo (.ins c (ns ++ [f]) (xs ++ [q.1]))))) else .bad
    | _ => .bad
  | .swp i i1 j i2 e, ρ => (ev G e ρ).bind fun q => match q.1 with
    | .tup [d1, d2] => (setIx G i i1 d1 q.2).bind fun ρ2 => (setIx G j i2 d2 ρ2).bind fun ρ3 => .ok (.nx, ρ3)
    | _ => .bad
  | .junk i a b, ρ => (ev G a ρ).bind fun q => (ev G b q.2).bind fun r => match q.1 with
    | .int _ => .ok (.nx, r.2.set i none)
    | _ => .bad
def exs (G : Sig) : List S → PEnv → Out (Flw × PEnv)
  | [], ρ => .ok (.nx, ρ)
  | s :: ss, ρ => (ex G s ρ).bind fun r => match r.1 with
    | .nx => exs G ss r.2
    | f => .ok (f, r.2)
end

structure Def where
  nm : Str
  N : List Str
  np : Nat
  body : List S
  cl : Str := ""
  fs : List Str := []
  deriving Inhabited

/-- the arguments that are lists of the caller's own: their names are not stored to, and stay such -/
def ownArgs (as : List Slot) (ws : List Nat) (ρ : PEnv) : Bool :=
  (List.range as.length).all fun j => !isOwn as[j]? || (!ws.contains j && isOwn (getS ρ j))
def runDef (G : Sig) (d : Def) : Gfun := fun as =>
  if as.length = d.np ∧ d.np ≤ d.N.length then
    (exs G d.body (as.map some ++ List.replicate (d.N.length - as.length) none)).bind fun r =>
      if ownArgs as (wrs d.body) r.2 = true then
        match r.1 with
        | .nx => .ok (.dat .non, r.2)
        | .ret s => .ok (s, r.2)
        | _ => .bad
      else .bad
  else .bad

/-- the program's defs, called k deep -/
def fndD (ds : List Def) (c f : Str) : Option Def := ds.find? fun d => d.nm == f && d.cl == c
def sigE : Sig := ⟨fun _ => none, fun _ _ => none, fun _ => none, fun _ _ => false⟩
def sigN (ds : List Def) (k : Nat) (s p : Sig) : Sig :=
  ⟨fun f => (fndD ds "" f).map (runDef s), fun c m => if c = "" ∨ m = "__init__" then none else (fndD ds c m).map (runDef s),
    fun c => if k = 0 ∨ c = "" then none else (fndD ds c "__init__").map (runDef p),
    fun c f => if c = "" then false else match fndD ds c "__init__" with
      | some d => d.fs.contains f
      | none => false⟩
def sig2 (ds : List Def) : Nat → Sig × Sig
  | 0 => (sigE, sigE)
  | k + 1 => (sigN ds k (sig2 ds k).1 (sig2 ds k).2, (sig2 ds k).1)
def sigOf (ds : List Def) (k : Nat) : Sig := (sig2 ds k).1
theorem sigOf_succ (ds : List Def) (k : Nat) : sigOf ds (k + 1) = sigN ds k (sigOf ds k) (sig2 ds k).2 := rfl
theorem sigOf_prev (ds : List Def) (k : Nat) : (sig2 ds (k + 1)).2 = sigOf ds k := rfl
end Px
set_option Elab.async false
set_option linter.all false
set_option maxRecDepth 100000
namespace Px
open PySem PySem.Spec PyProof.Rows L2

/-- a tuple whose object is known: it has no dict of its own -/
def TupN (F : Hp) (a : Addr) (vs : List V) : Prop := ∃ o : Obj, F a = some (.frz o (.tup vs)) ∧ o.dict = none
/-- the class c stands at C; the names ns are none of its attributes -/
structure ClsN (K : PySem.W.Frag) (c : Str) (C : Addr) (ns : List Str) : Prop where
  at_ : PySem.W.nsIn K mainGlobals c = some (some (.ref C))
  cls : ns ≠ [] → Cls K C
  no : ∀ f ∈ ns, NoAttr K C f
/-! ### what a value stands for -/
mutual
inductive Rep (K : PySem.W.Frag) (F : Hp) : V → D → Prop
  | non : Rep K F .non .non
  | bl (b : Bool) : Rep K F (.bl b) (.bl b)
  | int (i : Int) : Rep K F (.int i) (.int i)
  | str (x : Str) : Rep K F (.str x) (.str x)
  | tup {a : Addr} {vs : List V} {xs : List D} : TupN F a vs → RepAll K F vs xs → Rep K F (.ref a) (.tup xs)
  | lst {a : Addr} {vs : List V} {xs : List D} : SqL K F a vs → RepAll K F vs xs → Rep K F (.ref a) (.lst xs)
  | obj {a C dx : Addr} {c : Str} {ns : List Str} {vs : List V} {xs : List D} : F a = some (.ins C dx (ns.zip vs)) → ClsN K c C ns → RepAll K F vs xs → Rep K F (.ref a) (.obj c ns xs)
inductive RepAll (K : PySem.W.Frag) (F : Hp) : List V → List D → Prop
  | nil : RepAll K F [] []
  | cons {v : V} {vs : List V} {d : D} {ds : List D} : Rep K F v d → RepAll K F vs ds → RepAll K F (v :: vs) (d :: ds)
end
abbrev Ex (H H' : Hp) : Prop := ∀ a o, H a = some o → H' a = some o
theorem Ex.refl (H : Hp) : Ex H H := fun _ _ h => h
theorem Ex.trans {H H1 H2 : Hp} (a : Ex H H1) (b : Ex H1 H2) : Ex H H2 := fun x o h => b x o (a x o h)
theorem Ex.new {H : Hp} {p : Addr} {o : HO} (h : H p = none) : Ex H (upd H p o) := fun a u e => by
  rw [upd_ne (ne_of_none e h)]; exact e
theorem Ex.fresh {H H' : Hp} {p : Addr} (e : Ex H H') (h : H' p = none) : H p = none := by
  cases q : H p with
  | none => rfl
  | some o => rw [e p o q] at h; cases h
theorem Ex.rd {H H' : Hp} {a : Addr} {u : HO} (e : Ex H H') (h : Rd H a u) : Rd H' a u := by
  rcases h with h | ⟨o, h⟩
  · exact .inl (e a _ h)
  · exact .inr ⟨o, e a _ h⟩
theorem Ex.sqL {K : PySem.W.Frag} {H H' : Hp} {a : Addr} {xs : List V} (e : Ex H H') (h : SqL K H a xs) : SqL K H' a xs := by
  rcases h with h | h
  · exact .inl (e.rd h)
  · exact .inr h
theorem Ex.tupN {H H' : Hp} {a : Addr} {xs : List V} (e : Ex H H') (h : TupN H a xs) : TupN H' a xs := let ⟨o, h1, h2⟩ := h; ⟨o, e _ _ h1, h2⟩
theorem TupN.sqT {K : PySem.W.Frag} {F : Hp} {a : Addr} {vs : List V} (h : TupN F a vs) : SqT K F a vs := let ⟨o, h1, _⟩ := h; .inl (.inr ⟨o, h1⟩)
theorem Ex.sqT {K : PySem.W.Frag} {H H' : Hp} {a : Addr} {xs : List V} (e : Ex H H') (h : SqT K H a xs) : SqT K H' a xs := by
  rcases h with h | h
  · exact .inl (e.rd h)
  · exact .inr h
section
variable {K : PySem.W.Frag} {F F' H : Hp}
mutual
theorem Rep.mono (e : Ex F F') : ∀ {d : D} {v : V}, Rep K F v d → Rep K F' v d
  | _, _, .non => .non
  | _, _, .bl b => .bl b
  | _, _, .int i => .int i
  | _, _, .str x => .str x
  | _, _, .tup h r => .tup (e.tupN h) (RepAll.mono e r)
  | _, _, .lst h r => .lst (e.sqL h) (RepAll.mono e r)
  | _, _, .obj h c r => .obj (e _ _ h) c (RepAll.mono e r)
theorem RepAll.mono (e : Ex F F') : ∀ {ds : List D} {vs : List V}, RepAll K F vs ds → RepAll K F' vs ds
  | _, _, .nil => .nil
  | _, _, .cons h r => .cons (Rep.mono e h) (RepAll.mono e r)
end
theorem RepAll.length : ∀ {ds : List D} {vs : List V}, RepAll K F vs ds → vs.length = ds.length
  | _, _, .nil => rfl
  | _, _, .cons _ r => by simp [RepAll.length r]
theorem RepAll.app : ∀ {ds es : List D} {vs ws : List V}, RepAll K F vs ds → RepAll K F ws es → RepAll K F (vs ++ ws) (ds ++ es)
  | _, _, _, _, .nil, q => q
  | _, _, _, _, .cons h r, q => .cons h (r.app q)
theorem RepAll.one {v : V} {d : D} (h : Rep K F v d) : RepAll K F [v] [d] := .cons h .nil
theorem RepAll.get : ∀ {ds : List D} {vs : List V} {i : Nat} {v : V}, RepAll K F vs ds → vs[i]? = some v → ∃ d, ds[i]? = some d ∧ Rep K F v d
  | _, _, _, _, .nil, e => by simp at e
  | _, _, 0, _, .cons h r, e => by simp at e; subst e; exact ⟨_, rfl, h⟩
  | _, _, i + 1, _, .cons h r, e => by
    obtain ⟨d, q, z⟩ := r.get (i := i) (by simpa using e)
    exact ⟨d, by simpa using q, z⟩
theorem RepAll.get' : ∀ {ds : List D} {vs : List V} {i : Nat} {d : D}, RepAll K F vs ds → ds[i]? = some d → ∃ v, vs[i]? = some v ∧ Rep K F v d
  | _, _, _, _, .nil, e => by simp at e
  | _, _, 0, _, .cons h r, e => by simp at e; subst e; exact ⟨_, rfl, h⟩
  | _, _, i + 1, _, .cons h r, e => by
    obtain ⟨d, q, z⟩ := r.get' (i := i) (by simpa using e)
    exact ⟨d, by simpa using q, z⟩
theorem RepAll.take : ∀ {ds : List D} {vs : List V} (n : Nat), RepAll K F vs ds → RepAll K F (vs.take n) (ds.take n)
  | _, _, 0, _ => by simpa using .nil
  | _, _, _ + 1, .nil => .nil
  | _, _, n + 1, .cons h r => .cons h (r.take n)
theorem RepAll.drop : ∀ {ds : List D} {vs : List V} (n : Nat), RepAll K F vs ds → RepAll K F (vs.drop n) (ds.drop n)
  | _, _, 0, h => h
  | _, _, _ + 1, .nil => .nil
  | _, _, n + 1, .cons _ r => r.drop n
theorem RepAll.set : ∀ {ds : List D} {vs : List V} (i : Nat) {v : V} {d : D}, RepAll K F vs ds → Rep K F v d → RepAll K F (vs.set i v) (ds.set i d)
  | _, _, _, _, _, .nil, _ => .nil
  | _, _, 0, _, _, .cons _ r, h => .cons h r
  | _, _, i + 1, _, _, .cons h r, q => .cons h (r.set i q)
theorem RepAll.dropLast : ∀ {ds : List D} {vs : List V}, RepAll K F vs ds → RepAll K F vs.dropLast ds.dropLast := fun {ds vs} h => by
  rw [List.dropLast_eq_take, List.dropLast_eq_take, h.length]; exact h.take _
theorem RepAll.rep {ds : List D} {vs : List V} (h : RepAll K F vs ds) : ∀ n : Nat, RepAll K F (List.replicate n vs).flatten (List.replicate n ds).flatten
  | 0 => by simpa using .nil
  | n + 1 => by simp only [List.replicate_succ, List.flatten_cons]; exact h.app (h.rep n)
theorem RepAll.ints : ∀ {ds : List D} {vs : List V} {ns : List Int}, RepAll K F vs ds → intsOf ds = some ns → vs = ns.map V.int
  | _, _, _, .nil, e => by cases e; rfl
  | d :: ds, _, ns, .cons h r, e => by
    cases d <;> try (simp [intsOf] at e; done)
    simp only [intsOf, Option.map_eq_some_iff] at e
    obtain ⟨ms, e1, e2⟩ := e
    subst e2
    cases h
    rw [r.ints e1]; rfl
theorem RepAll.bls : ∀ {ds : List D} {vs : List V} {ns : List Bool}, RepAll K F vs ds → blsOf ds = some ns → vs = ns.map V.bl
  | _, _, _, .nil, e => by cases e; rfl
  | d :: ds, _, ns, .cons h r, e => by
    cases d <;> try (simp [blsOf] at e; done)
    simp only [blsOf, Option.map_eq_some_iff] at e
    obtain ⟨ms, e1, e2⟩ := e
    subst e2
    cases h
    rw [r.bls e1]; rfl

/-- an operand as it is read: it stands still, or it is a list that may change later -/
def RepO (K : PySem.W.Frag) (F H : Hp) (v : V) (d : D) : Prop :=
  Rep K F v d ∨ ∃ a vs xs, v = .ref a ∧ d = .lst xs ∧ H a = some (.lst vs) ∧ RepAll K F vs xs
theorem RepO.tupN {v : V} {xs : List D} (e : Ex F H) (h : RepO K F H v (.tup xs)) : ∃ a vs, v = .ref a ∧ TupN H a vs ∧ RepAll K F vs xs := by
  rcases h with h | ⟨a, vs, ys, h1, h2, _⟩
  · cases h with
    | tup h r => exact ⟨_, _, rfl, e.tupN h, r⟩
  · cases h2
theorem RepO.tup {v : V} {xs : List D} (e : Ex F H) (h : RepO K F H v (.tup xs)) : ∃ a vs, v = .ref a ∧ SqT K H a vs ∧ RepAll K F vs xs := by
  obtain ⟨a, vs, h1, h2, h3⟩ := h.tupN e
  exact ⟨a, vs, h1, h2.sqT, h3⟩
theorem RepO.obj {v : V} {c : Str} {ns : List Str} {xs : List D} (e : Ex F H) (h : RepO K F H v (.obj c ns xs)) : ∃ a C dx vs, v = .ref a ∧ H a = some (.ins C dx (ns.zip vs)) ∧ ClsN K c C ns ∧ RepAll K F vs xs := by
  rcases h with h | ⟨a, vs, ys, h1, h2, _⟩
  · cases h with
    | obj h1 h2 r => exact ⟨_, _, _, _, rfl, e _ _ h1, h2, r⟩
  · cases h2
theorem RepO.lst {v : V} {xs : List D} (e : Ex F H) (h : RepO K F H v (.lst xs)) : ∃ a vs, v = .ref a ∧ SqL K H a vs ∧ RepAll K F vs xs := by
  rcases h with h | ⟨a, vs, ys, h1, h2, h3, h4⟩
  · cases h with
    | lst h r => exact ⟨_, _, rfl, e.sqL h, r⟩
  · cases h2
    exact ⟨a, vs, h1, SqL.of h3, h4⟩
theorem RepO.int {v : V} {i : Int} (h : RepO K F H v (.int i)) : v = .int i := by
  rcases h with h | ⟨a, vs, ys, h1, h2, _⟩
  · cases h; rfl
  · cases h2
theorem RepO.bl {v : V} {i : Bool} (h : RepO K F H v (.bl i)) : v = .bl i := by
  rcases h with h | ⟨a, vs, ys, h1, h2, _⟩
  · cases h; rfl
  · cases h2
theorem RepO.non {v : V} (h : RepO K F H v .non) : v = .non := by
  rcases h with h | ⟨a, vs, ys, h1, h2, _⟩
  · cases h; rfl
  · cases h2
theorem RepO.str {v : V} {x : Str} (h : RepO K F H v (.str x)) : v = .str x := by
  rcases h with h | ⟨a, vs, ys, h1, h2, _⟩
  · cases h; rfl
  · cases h2
theorem deep70 : ¬ (deepPy 70).depth ≤ 64 := by decide
mutual
theorem Rep.dp (e : Ex F H) : ∀ {d : D} {v : V}, Rep K F v d → d.py.depth ≤ 64 → Dp K H v d.py
  | _, _, .non, _ => .non
  | _, _, .bl b, _ => .bl b
  | _, _, .int i, _ => .int i
  | _, _, .str x, _ => .str x
  | .tup xs, _, .tup h r, q => by
    rw [D.py] at q ⊢
    exact .tup (e.tupN h).sqT (RepAll.dp e r (by have : PyData.depthAll (D.py.pyAll xs) + 1 ≤ 64 := q; omega))
  | .lst xs, _, .lst h r, q => by
    rw [D.py] at q ⊢
    exact .lst (e.sqL h) (RepAll.dp e r (by have : PyData.depthAll (D.py.pyAll xs) + 1 ≤ 64 := q; omega))
  | .obj c ns xs, _, .obj _ _ _, q => by
    rw [D.py] at q
    exact absurd q deep70
theorem RepAll.dp (e : Ex F H) : ∀ {ds : List D} {vs : List V}, RepAll K F vs ds → PyData.depthAll (D.py.pyAll ds) ≤ 64 → DpAll K H vs (D.py.pyAll ds)
  | _, _, .nil, _ => by rw [D.py.pyAll]; exact .nil
  | d :: ds, _, .cons h r, q => by
    rw [D.py.pyAll] at q ⊢
    have q' : max d.py.depth (PyData.depthAll (D.py.pyAll ds)) ≤ 64 := q
    exact .cons (Rep.dp e h (by omega)) (RepAll.dp e r (by omega))
end
theorem RepO.dp (e : Ex F H) {v : V} {d : D} (h : RepO K F H v d) (q : d.py.depth ≤ 64) : Dp K H v d.py := by
  rcases h with h | ⟨a, vs, xs, rfl, rfl, h3, h4⟩
  · exact h.dp e q
  · rw [D.py] at q ⊢
    exact .lst (SqL.of h3) (RepAll.dp e h4 (by have : PyData.depthAll (D.py.pyAll xs) + 1 ≤ 64 := q; omega))
end

/-- what a primitive hands on: data that stands still, a new list, a new tuple -/
structure PRes (K : PySem.W.Frag) (F H : Hp) (fresh : Bool) (d : D) (Q : VK) : Prop where
  dat : (fresh = true → ∀ xs, d ≠ .lst xs) → ∀ v, Rep K F v d → Q v H
  lst : ∀ q vs xs, H q = none → d = .lst xs → RepAll K F vs xs → Q (.ref q) (upd H q (.lst vs))
  tup : ∀ q (o : Obj) vs xs, H q = none → o.dict = none → d = .tup xs → RepAll K F vs xs → Q (.ref q) (upd H q (.frz o (.tup vs)))
section
variable {X : Cx}

/-! ### list + list, of any kind -/
def rCatL (K : PySem.W.Frag) : R2 := fun x y H Q => ∃ l b xs zs, x = .ref l ∧ y = .ref b ∧ SqL K H l xs ∧ SqL K H b zs ∧ xs.length + zs.length ≤ sizeLine ∧ ∀ p, H p = none → Q (.ref p) (upd H p (.lst (xs ++ zs)))
theorem op_catL : OpR X (binaryOp .Add) (rCatL X.K) := by
  intro pins s σ H x y v u Q I rx ry h
  obtain ⟨l, b, xs, zs, rfl, rfl, hH, hB, hz, q⟩ := h
  cases rx
  cases ry
  obtain ⟨its, r, ⟨⟨cls, dd, data, sl⟩, n, ho, hc, _, hd⟩, hs⟩ := I.list hH
  obtain ⟨its2, r2, ⟨⟨cls2, dd2, data2, sl2⟩, n2, ho2, hc2, _, hd2⟩, hs2⟩ := I.list hB
  simp only at hc hd hc2 hd2
  subst hc hd hc2 hd2
  have e : its.toArray ++ its2.toArray = (its ++ its2).toArray := by simp
  have l1 := r.length
  have l2 := r2.length
  refine concat_meets ⟨_, ho, rfl⟩ ⟨_, ho2, rfl⟩ noFill_list_add seq_list_add PySem.F.slot_list_add PySem.F.entry_list_add (PySem.F.args_list_add_2 _ _) (list_addW l b its.toArray its2.toArray n n2 dd dd2 sl sl2 (by simp only [List.size_toArray]; omega)) ⟨ho, ho2, ?_⟩
  rw [e]
  exact ⟨.ref _, _, I.lnew (t' := s.toks) (r.append r2) (by rw [List.length_append]; omega), rfl, q _ I.fresh⟩
end
end Px
set_option Elab.async false
set_option linter.all false
set_option maxRecDepth 100000
set_option maxHeartbeats 4000000
namespace Px
open PySem PySem.Spec PyProof.Rows L2
/-! ### new tuples, their objects known -/
abbrev tupObj (its : List Value) : Obj := { cls := .type "tuple", data := .seq its.toArray }
theorem noI_tuple_add : typeLookup (.type "tuple") (dunderI "add") = pure none := by rw [typeLookup_type, builtinLookup_eq_fast]; kernel_rfl
section
variable {X : Cx} {pins : List (Addr × Obj)} {σ : L2.St} {H : Hp} {s : Shared}
theorem layT {xs : List V} {its : List Value} {t' : Nat} (I : Inv X pins σ H s) (hz : xs.length ≤ sizeLine) (r : Vals xs its) :
    Inv X pins σ (L2.upd H s.heap.objs.size (.frz (tupObj its) (.tup xs))) { s with heap := s.heap.push (tupObj its), toks := t' } :=
  I.laid (t' := t') (fun b o e => Heap.get?_push_of_some _ e) (Nat.le_refl _) ⟨Heap.get?_push_size _ rfl, hz, its, r, IsTup.new _ _⟩
theorem layT' {xs : List V} {acc : Array Value} {t' : Nat} (I : Inv X pins σ H s) (hz : xs.length ≤ sizeLine) (r : Vals xs acc.toList) :
    Inv X pins σ (L2.upd H s.heap.objs.size (.frz { cls := .type "tuple", data := .seq acc } (.tup xs))) { s with heap := s.heap.push { cls := .type "tuple", data := .seq acc }, toks := t' } :=
  I.laid (t' := t') (fun b o e => Heap.get?_push_of_some _ e) (Nat.le_refl _) ⟨Heap.get?_push_size _ rfl, hz, acc.toList, r, by rw [Array.toArray_toList]; exact IsTup.new _ _⟩
/-- t + u -/
def rCatN (K : PySem.W.Frag) : R2 := fun x y H Q => ∃ a b xs ys, x = .ref a ∧ y = .ref b ∧ SqT K H a xs ∧ SqT K H b ys ∧ xs.length + ys.length ≤ sizeLine ∧
  (xs = [] → Q (.ref b) H) ∧ (xs ≠ [] → ys = [] → Q (.ref a) H) ∧ (xs ≠ [] → ys ≠ [] → ∀ p (o : Obj), H p = none → o.dict = none → Q (.ref p) (L2.upd H p (.frz o (.tup (xs ++ ys)))))
theorem op_catN : OpR X (binaryOp .Add) (rCatN X.K) := by
  intro pins s σ H x y v u Q I rx ry h
  obtain ⟨a, b, xs, ys, rfl, rfl, ha, hb, hz, q0, q1, q2⟩ := h
  cases rx
  cases ry
  obtain ⟨its, r1, p1, _⟩ := I.tuple ha
  obtain ⟨its2, r2, p2, _⟩ := I.tuple hb
  by_cases hx : xs = []
  · subst hx
    cases r1
    exact cat_tup0 p1 p2 ⟨.ref b, H, I, rfl, q0 rfl⟩
  · refine HT.cat_tup p1 p2 (fun z => hx (r1.nil_iff.mp z)) (fun z => ⟨.ref a, H, I, rfl, q1 hx (r2.nil_iff.mp z)⟩) (fun z => ?_) (by rw [← r1.length, ← r2.length]; exact hz)
    exact ⟨.ref s.heap.objs.size, _, layT (t' := s.toks) I (by rw [List.length_append]; exact hz) (r1.append r2), rfl, q2 hx (fun w => z (r2.nil_iff.mpr w)) _ _ (I.hok.fresh (Nat.le_refl _)) rfl⟩
section
variable {prog : Program} {w : World} {A : Around} {E : Value → Shared → Prop}
theorem icat_meets {a b : Value} {S : PySem.Spec} {Q : Value → Shared → Prop} (ha : s.TypeIs a "tuple") (hb : s.TypeIs b "tuple") (g : Meets (Builtin.«tuple.__add__» ⟨[a, b], []⟩) S) (args : argsOk "tuple.__add__" ⟨[a, b], []⟩) (h : S A (wants Q E) s) : wpAny (model prog w) A (inplaceOp .Add a b) Q E s :=
  wpAny_inplaceOp_concat ha hb noI_tuple_add noFill_tuple_add seq_tuple_add (call_meets PySem.F.slot_tuple_add ha PySem.F.entry_tuple_add args g h)
end
theorem iop_catN : OpR X (inplaceOp .Add) (rCatN X.K) := by
  intro pins s σ H x y v u Q I rx ry h
  obtain ⟨a, b, xs, ys, rfl, rfl, ha, hb, hz, q0, q1, q2⟩ := h
  cases rx
  cases ry
  obtain ⟨its, r1, p1, _⟩ := I.tuple ha
  obtain ⟨its2, r2, p2, _⟩ := I.tuple hb
  obtain ⟨⟨cls, dd, data, sl⟩, ho, hc, n, hd⟩ := id p1
  obtain ⟨⟨cls2, dd2, data2, sl2⟩, ho2, hc2, n2, hd2⟩ := id p2
  simp only at hc hd hc2 hd2
  subst hc hd hc2 hd2
  by_cases hx : xs = []
  · subst hx
    cases r1
    exact icat_meets ⟨_, ho, rfl⟩ ⟨_, ho2, rfl⟩ (tuple_addW0 a b ([] : List Value).toArray its2.toArray n n2 dd dd2 sl sl2 (by simp)) (PySem.F.args_tuple_add_2 _ _) ⟨ho, ho2, .ref b, H, I, rfl, q0 rfl⟩
  · have hv : its ≠ [] := fun z => hx (r1.nil_iff.mp z)
    have e : its.toArray ++ its2.toArray = (its ++ its2).toArray := by simp
    have hsz : its.length + its2.length ≤ sizeLine := by rw [← r1.length, ← r2.length]; exact hz
    by_cases hw : its2 = []
    · exact icat_meets ⟨_, ho, rfl⟩ ⟨_, ho2, rfl⟩ (tuple_addW1 a b its.toArray its2.toArray n n2 dd dd2 sl sl2 (by simpa using hv) (by simp [hw])) (PySem.F.args_tuple_add_2 _ _) ⟨ho, ho2, .ref a, H, I, rfl, q1 hx (r2.nil_iff.mp hw)⟩
    · refine icat_meets ⟨_, ho, rfl⟩ ⟨_, ho2, rfl⟩ (tuple_addW2 a b its.toArray its2.toArray n n2 dd dd2 sl sl2 (by simpa using hv) (by simpa using hw) (by rw [List.size_toArray, List.size_toArray]; exact hsz)) (PySem.F.args_tuple_add_2 _ _) ⟨ho, ho2, ?_⟩
      rw [e]
      exact ⟨.ref s.heap.objs.size, _, layT (t' := s.toks) I (by rw [List.length_append]; exact hz) (r1.append r2), rfl, q2 hx (fun w => hw (r2.nil_iff.mpr w)) _ _ (I.hok.fresh (Nat.le_refl _)) rfl⟩
/-- t[lo:hi] -/
def rSlN (K : PySem.W.Frag) : V → Option Int → Option Int → Hp → VK → Prop := fun x lo hi H Q => ∃ a xs, x = .ref a ∧ SqT K H a xs ∧
  (HT.sIx xs.length 0 lo = 0 ∧ HT.sIx xs.length xs.length hi = xs.length → Q (.ref a) H) ∧ (¬ (HT.sIx xs.length 0 lo = 0 ∧ HT.sIx xs.length xs.length hi = xs.length) → ∀ p (o : Obj), H p = none → o.dict = none → Q (.ref p) (L2.upd H p (.frz o (.tup (cutV xs lo hi)))))
theorem sl_tupN : SlR X (rSlN X.K) := by
  intro pins s σ H x v vl vu lo hi sl Q I rx hs pl pu h
  obtain ⟨a, xs, rfl, hx, q1, q2⟩ := h
  cases rx
  obtain ⟨its, r, ht, hz⟩ := I.tuple hx
  have hlen : its.toArray.size = xs.length := by rw [List.size_toArray]; exact r.length.symm
  refine ⟨"tuple", _, PyProof.Rows.slot_tuple_getitem.lookup, ht.typeIs, ?_⟩
  by_cases hw : HT.sIx xs.length 0 lo = 0 ∧ HT.sIx xs.length xs.length hi = xs.length
  · exact getItem_tuple_whole ht hs pl pu (by rw [hlen]; exact hw) ⟨.ref a, H, I, rfl, q1 hw⟩
  · refine HT.getItem_tuple_cut ht hs pl pu (by rw [hlen]; exact hw) ?_ (by rw [hlen]; exact hz)
    rw [hlen]
    exact ⟨.ref s.heap.objs.size, _, layT (t' := s.toks) I (Nat.le_trans (cutV_length xs lo hi) hz) ((r.drop (HT.sIx xs.length 0 lo)).take (HT.sIx xs.length xs.length hi - HT.sIx xs.length 0 lo)), rfl, q2 hw _ _ (I.hok.fresh (Nat.le_refl _)) rfl⟩
/-- tuple(x) -/
theorem call_tupleN : CallR X (.type "tuple") (fun xs H Q => ∃ p ys, xs = [.ref p] ∧ ((SqL X.K H p ys ∧ ∀ l (o : Obj), H l = none → o.dict = none → Q (.ref l) (L2.upd H l (.frz o (.tup ys)))) ∨ (SqT X.K H p ys ∧ Q (.ref p) H))) := by
  intro pins s σ H xs us Q I r h
  obtain ⟨p, ys, rfl, h⟩ := h
  obtain ⟨u, rfl, rx⟩ := vals1 r
  cases rx
  rcases h with ⟨hq, q⟩ | ⟨hq, q⟩
  · obtain ⟨its, r', pl, hz⟩ := I.list hq
    have hlen := r'.length
    refine call_tuple_list pl.isList (fun h' kp => ?_) (by simp only [List.size_toArray] <;> omega)
    have I1 : Inv X pins σ H { s with heap := h' } := I.kept (t' := s.toks) kp
    exact ⟨.ref h'.objs.size, _, layT (t' := s.toks) I1 hz r', rfl, q _ _ (I1.hok.fresh (Nat.le_refl _)) rfl⟩
  · obtain ⟨its, r', pl, hz⟩ := I.tuple hq
    exact call_tuple_same pl ⟨.ref p, H, I, rfl, q⟩
/-- a display -/
def tTupN (t : TA) : TE := fun σ H Q => t σ H fun xs H1 => xs.length ≤ sizeLine ∧ ∀ p (o : Obj), H1 p = none → o.dict = none → Q (.ref p) (L2.upd H1 p (.frz o (.tup xs)))
theorem pe_tupN {es : List Expr} {t : TA} {pos : Pos} {x1} (h : PA X es t) : PE X (.Tuple es x1 pos) (tTupN t) := by
  refine ⟨fun pins s σ H Q I hq => ?_⟩
  refine wpAny_Tuple_spliced (thn (h.run pos pins s σ H _ I hq) fun us s1 ⟨xs, H1, I1, r, z, q⟩ => ⟨by rw [← r.length]; exact z, ?_⟩)
  have hf : H1 s1.heap.objs.size = none := I1.hok.fresh (Nat.le_refl _)
  exact ⟨.ref s1.heap.objs.size, _, layT (t' := s1.toks) I1 z r, rfl, q _ _ hf rfl⟩
/-- tuple(reversed(x)), x a list -/
def tTupRevN (K : PySem.W.Frag) (te : TE) : TE := fun σ H Q => te σ H fun v H1 => ∃ (a : Addr) (xs : List V), v = .ref a ∧ SqL K H1 a xs ∧ ∀ q (o : Obj), H1 q = none → o.dict = none → Q (.ref q) (L2.upd H1 q (.frz o (.tup xs.reverse)))
theorem pe_tupRevN {e : Expr} {te : TE} {p p2 pos pos2 : Pos} (hc : X.calm = true) (hg : Gl X "tuple") (hm : X.mg "tuple" = none) (hg2 : Gl X "reversed") (hm2 : X.mg "reversed" = none) (he : PE X e te)
    (hs : starEach [e] X.env = (false, eval e X.env) :: starEach [] X.env := by rfl)
    (hs2 : starEach [.Call (.Name "reversed" p2) [e] [] pos2] X.env = (false, eval (.Call (.Name "reversed" p2) [e] [] pos2) X.env) :: starEach [] X.env := by rfl) :
    PE X (.Call (.Name "tuple" p) [.Call (.Name "reversed" p2) [e] [] pos2] [] pos) (tTupRevN X.K te) := by
  refine ⟨fun pins s σ H Q I h => ?_⟩
  refine Call_ (ld_blt I hg hm boot_tuple (PyProof.Rows.callWith_type1 (args_cons (Call_ (ld_blt I hg2 hm2 PyProof.Rows.boot_reversed (PyProof.Rows.callWith_type1 (args_cons (thn (he.run pins s σ H _ I h) fun u s1 ⟨v, H1, I1, r1, q1⟩ => args_nil ?_) hs) hs rfl))) hs2) hs2 rfl))
  obtain ⟨a, xs, ev, hq, q⟩ := q1
  subst ev
  obtain rfl : u = Value.ref a := r1
  obtain ⟨its, rv, p', hz⟩ := I1.list hq
  refine call_reversed_list p'.isList (args_nil ?_)
  have k0 : ∀ b o, s1.heap.get? b = some o → (s1.heap.push (revObj a ((its.toArray.size : Int) - 1))).get? b = some o := fun b o e => Heap.get?_push_of_some _ e
  have I2 : Inv X pins σ H1 { s1 with heap := s1.heap.push (revObj a ((its.toArray.size : Int) - 1)) } := I1.kept (t' := s1.toks) k0
  obtain ⟨f0, f1, f2, f3, f4, f5⟩ := I1.fpOk (H' := H1) (b := s1.heap.objs.size) (Nat.le_refl _) (I1.hok.fresh (Nat.le_refl _))
  have hl := p'.isList
  obtain ⟨ol, hol, _⟩ := id hl
  have hne : a ≠ s1.heap.objs.size := Nat.ne_of_lt (Heap.lt_size hol)
  have hn : its.toArray.size ≤ sizeLine := by rw [List.size_toArray, ← rv.length]; exact hz
  refine RT.call_tuple_rev (s := { s1 with heap := s1.heap.push (revObj a ((its.toArray.size : Int) - 1)) }) (I1.ok.hd hc) ⟨_, Heap.get?_push_size _ rfl, rfl, rfl⟩ (hl.push _) hne hn fun h' tk acc hk hi => ?_
  have I3 : Inv X pins σ H1 { s1 with heap := h', toks := tk } := I2.turned (t' := tk) (fun b o hb e => hk b o hb e) f0 f1 f3 f4 f5
  exact ⟨.ref h'.objs.size, _, layT' (t' := tk) I3 (by rw [List.length_reverse]; exact hz) (RT.vals_rev rv hi), rfl, q _ _ (I3.hok.fresh (Nat.le_refl _)) rfl⟩
end
end Px
set_option Elab.async false
set_option linter.all false
set_option maxRecDepth 100000
set_option maxHeartbeats 2000000
namespace Px
open PySem PySem.Spec PyProof.Rows L2
theorem int_rmul_listW (a : Int) (t : Tok) (l : Addr) (items : Array Value) (n : Nat) (dd : Option Addr) (sl : Array (Option Value)) :
    Meets (Builtin.«int.__rmul__» ⟨[.int a t, .ref l], []⟩) (fun _ R s => s.heap.get? l = some { cls := .type "list", dict := dd, data := .seq items n, slots := sl } ∧ R (.ok (.ret Value.notImplemented)) s) :=
  .of_wp fun prog w A R s h => by obtain ⟨hp, g, d, tk, os⟩ := s; obtain ⟨hl, h⟩ := h; wp_walk using wpAny_loadPart' hl; exact ⟨_, rfl, h⟩
theorem list_mulW (l : Addr) (items : Array Value) (n : Nat) (dd : Option Addr) (sl : Array (Option Value)) (x : Int) (u : Tok) (hc0 : ¬(!Builtin.List.listFitsIndex x) = true) (hc1 : ¬items.size * x.toNat > (2 ^ 63 - 1) / 8) (hc2 : ¬Builtin.List.listTooLong (items.size * x.toNat) = true) :
    Meets (Builtin.«list.__mul__» ⟨[.ref l, .int x u], []⟩) (fun _ R s => s.heap.get? l = some { cls := .type "list", dict := dd, data := .seq items n, slots := sl } ∧ R (.ok (.ret (Value.ref s.heap.objs.size))) { s with heap := s.heap.push { cls := Value.type "list", data := Data.seq (List.foldl (fun x1 x2 => x1 ++ x2) #[] (List.replicate (if items.isEmpty = true then 0 else x.toNat) items)) }, toks := s.toks }) :=
  .of_wp fun prog w A R s h => by
    obtain ⟨hp, g, d, tk, os⟩ := s; obtain ⟨hl, h⟩ := h
    have hsz := AutoListH.joined_fits hc2
    wp_walk using wpAny_loadPart' hl
    refine wpAny_ite_false (decide_eq_false (Nat.not_lt.mpr hsz)) ?_; wp_walk using wpAny_loadPart' hl; exact ⟨_, rfl, h⟩
theorem tuple_mul1 (l : Addr) (items : Array Value) (n : Nat) (dd : Option Addr) (sl : Array (Option Value)) (x : Int) (u : Tok) (c0 : (decide (x < -(2 ^ 63)) || decide (x ≥ 2 ^ 63)) = false) (c1 : (items.isEmpty || x == 1) = true) :
    Meets (Builtin.«tuple.__mul__» ⟨[.ref l, .int x u], []⟩) (fun _ R s => s.heap.get? l = some { cls := .type "tuple", dict := dd, data := .seq items n, slots := sl } ∧
      R (.ok (.ret (Value.ref l))) s) :=
  .of_wp fun prog w A R s h => by
    obtain ⟨hp, g, d, tk, os⟩ := s
    obtain ⟨hl, h⟩ := h
    have f1 := AutoSeq1.idx_int
    wp_walk using wpAny_loadPart' hl
    repeat (first
      | (refine wpAny_ite_false (decide_eq_false (by rw [c0]; exact Bool.false_ne_true)) ?_; wp_walk using wpAny_loadPart' hl)
      | (refine wpAny_ite_true (decide_eq_true c1) ?_; wp_walk using wpAny_loadPart' hl))
    exact ⟨_, rfl, h⟩
theorem tuple_mul0 (l : Addr) (items : Array Value) (n : Nat) (dd : Option Addr) (sl : Array (Option Value)) (x : Int) (u : Tok) (c0 : (decide (x < -(2 ^ 63)) || decide (x ≥ 2 ^ 63)) = false) (c1 : (items.isEmpty || x == 1) = false) (c2 : (decide (x ≤ 0) || items.isEmpty) = true) :
    Meets (Builtin.«tuple.__mul__» ⟨[.ref l, .int x u], []⟩) (fun _ R s => s.heap.get? l = some { cls := .type "tuple", dict := dd, data := .seq items n, slots := sl } ∧
      R (.ok (.ret (Value.ref s.heap.objs.size))) { s with heap := s.heap.push { cls := Value.type "tuple", data := Data.seq #[] }, toks := s.toks }) :=
  .of_wp fun prog w A R s h => by
    obtain ⟨hp, g, d, tk, os⟩ := s
    obtain ⟨hl, h⟩ := h
    have f1 := AutoSeq1.idx_int
    wp_walk using wpAny_loadPart' hl
    repeat (first
      | (refine wpAny_ite_false (decide_eq_false (by rw [c0]; exact Bool.false_ne_true)) ?_; wp_walk using wpAny_loadPart' hl)
      | (refine wpAny_ite_false (decide_eq_false (by rw [c1]; exact Bool.false_ne_true)) ?_; wp_walk using wpAny_loadPart' hl)
      | (refine wpAny_ite_true (decide_eq_true c2) ?_; wp_walk using wpAny_loadPart' hl))
    exact ⟨_, rfl, h⟩
theorem lim_eq : lim = sizeLine := by rw [sizeLine_eq]; rfl
section
variable {X : Cx}
/-- a list times an int, of any kind -/
def rRepLA (K : PySem.W.Frag) : R2 := fun x y H Q => ∃ l k xs, x = .ref l ∧ y = .int k ∧ SqL K H l xs ∧ -(2 ^ 63) ≤ k ∧ k < 2 ^ 63 ∧ xs.length * k.toNat ≤ sizeLine ∧
  ∀ p, H p = none → Q (.ref p) (upd H p (.lst (List.replicate k.toNat xs).flatten))
theorem op_repLA : OpR X (binaryOp .Mult) (rRepLA X.K) := by
  intro pins s σ H x y v u Q I rx ry h
  obtain ⟨l, k, xs, rfl, rfl, hH, h1, h2, hz, q⟩ := h
  cases rx
  obtain ⟨t, rfl⟩ := ry
  obtain ⟨its, r, ⟨⟨cls, dd, data, sl⟩, n, ho, hc, _, hd⟩, hs⟩ := I.list hH
  simp only at hc hd
  subst hc hd
  have hl : xs.length = its.length := r.length
  have hlen : its.toArray.size * k.toNat ≤ sizeLine := by rw [List.size_toArray, ← hl]; exact hz
  have hcap : ¬ its.toArray.size * k.toNat > (2 ^ 63 - 1) / 8 := by
    have : (sizeLine : Nat) ≤ (2 ^ 63 - 1) / 8 := by decide
    omega
  have hfit : ¬ (!Builtin.List.listFitsIndex k) = true := by
    rw [fitsIndex_both h1 h2]
    exact Bool.false_ne_true
  have hlong : ¬ Builtin.List.listTooLong (its.toArray.size * k.toNat) = true := by
    rw [notLongL hlen]
    exact Bool.false_ne_true
  have hnew : List.foldl (fun x1 x2 => x1 ++ x2) #[] (List.replicate (if its.toArray.isEmpty = true then 0 else k.toNat) its.toArray) = (List.replicate k.toNat its).flatten.toArray := by
    have f0 : ∀ m : Nat, List.foldl (fun x1 x2 => x1 ++ x2) #[] (List.replicate m its.toArray) = (List.replicate m its).flatten.toArray := fun m => by
      have := foldl_rep its m []
      rw [List.nil_append] at this
      exact this
    rw [f0]
    cases its with
    | nil => simp
    | cons a r' => rw [if_neg (by simp)]
  refine wpAny_binaryOp_repeat_ref (T := "list") (U := "int") (by decide) ⟨_, ho, rfl⟩ (fun s' => typeIs_int s' k t) noFill_list_mul F.fills_int_mul F.slot_int_rmul repeat_list F.slot_int_index.lookup
    (call_meets F.slot_int_rmul (typeIs_int s k t) F.entry_int_rmul (F.args_int_rmul_2 _ _) (int_rmul_listW k t l its.toArray n dd sl)
      ⟨ho, rfl, ⟨_, ho, rfl⟩, call_meets F.slot_list_mul ⟨_, ho, rfl⟩ F.entry_list_mul (F.args_list_mul_2 _ _) (list_mulW l its.toArray n dd sl k t hfit hcap hlong) ⟨ho, ?_⟩⟩)
  rw [hnew]
  exact ⟨.ref _, _, I.lnew (t' := s.toks) (r.rep k.toNat) (by rw [PyProof.Rows.lm_len_rep_flat, Nat.mul_comm]; exact hz), rfl, q _ I.fresh⟩
/-- a tuple times an int -/
def rRepTA (K : PySem.W.Frag) : R2 := fun x y H Q => ∃ l k xs, x = .ref l ∧ y = .int k ∧ SqT K H l xs ∧ -1000 ≤ k ∧ k ≤ 1000 ∧ xs.length ≤ 1000 ∧
  ((xs = [] ∨ k = 1) → Q (.ref l) H) ∧ ∀ p (o : Obj), H p = none → o.dict = none → Q (.ref p) (upd H p (.frz o (.tup (List.replicate k.toNat xs).flatten)))
theorem op_repTA : OpR X (binaryOp .Mult) (rRepTA X.K) := by
  intro pins s σ H x y v u Q I rx ry h
  obtain ⟨l, k, xs, rfl, rfl, hH, h1, h2, hz, q1, q⟩ := h
  by_cases c : xs ≠ [] ∧ 2 ≤ k
  · cases rx
    obtain ⟨t, rfl⟩ := ry
    obtain ⟨its, r, ⟨⟨cls, dd, data, sl⟩, ho, hc, n, hd⟩, hs⟩ := I.tuple hH
    simp only at hc hd
    subst hc hd
    obtain ⟨hne, h1⟩ := c
    have hle : its.length = xs.length := r.length.symm
    have hn : its ≠ [] := fun e => hne (by
      rw [e] at hle
      exact List.eq_nil_of_length_eq_zero hle.symm)
    have hi : its.toArray.isEmpty = false := by
      cases its with
      | nil => exact absurd rfl hn
      | cons a b => rfl
    have hsz0 : its.toArray.size = xs.length := by rw [List.size_toArray, hle]
    have hm : ((its.toArray.size : Nat) : Int) * k ≤ 1000000 := by
      rw [hsz0]
      have a1 : ((xs.length : Nat) : Int) * k ≤ 1000 * k := Int.mul_le_mul_of_nonneg_right (by omega) (by omega)
      omega
    have flen : (List.replicate k.toNat its).flatten.length ≤ sizeLine := by
      rw [PyProof.Rows.lm_len_rep_flat, hle, sizeLine_eq]
      have a1 : k.toNat * xs.length ≤ 1000 * 1000 := Nat.mul_le_mul (by omega) hz
      omega
    have flen2 : (List.replicate k.toNat xs).flatten.length ≤ sizeLine := by
      rw [PyProof.Rows.lm_len_rep_flat, sizeLine_eq]
      have a1 : k.toNat * xs.length ≤ 1000 * 1000 := Nat.mul_le_mul (by omega) hz
      omega
    have c0 : (decide (k < -(2 ^ 63)) || decide (k ≥ 2 ^ 63)) = false := by
      rw [decide_eq_false (by omega), decide_eq_false (by omega)] <;> rfl
    have c1 : (its.toArray.isEmpty || k == 1) = false := by
      rw [hi, Bool.false_or]
      exact beq_eq_false_iff_ne.mpr (by omega)
    have c2 : (decide (k ≤ 0) || its.toArray.isEmpty) = false := by
      rw [hi, Bool.or_false]
      exact decide_eq_false (by omega)
    have c4 : Builtin.Tuple.tupleTooMany (((its.toArray.size : Nat) : Int) * k) = false := by
      unfold Builtin.Tuple.tupleTooMany
      rw [sizeLine_eq]
      exact decide_eq_false (by omega)
    refine wpAny_binaryOp_repeat_ref (T := "tuple") (U := "int") (by decide) ⟨_, ho, rfl⟩ (fun s' => typeIs_int s' k t) noFill_tuple_mul F.fills_int_mul F.slot_int_rmul repeat_tuple F.slot_int_index.lookup
      (call_meets F.slot_int_rmul (typeIs_int s k t) F.entry_int_rmul (F.args_int_rmul_2 _ _) (int_rmul_tuple k t l its.toArray n dd sl)
        ⟨ho, rfl, ⟨_, ho, rfl⟩, call_meets F.slot_tuple_mul ⟨_, ho, rfl⟩ F.entry_tuple_mul (F.args_tuple_mul_2 _ _) (tuple_mulW l its.toArray n dd sl k t c0 c1 c2 (by omega) c4 (by rw [size_rep, List.size_toArray]; exact flen)) ⟨ho, ?_⟩⟩)
    rw [size_rep]
    exact ⟨.ref s.heap.objs.size, _, layT (t' := s.toks) I flen2 (r.rep k.toNat), rfl, q _ _ (I.hok.fresh (Nat.le_refl _)) rfl⟩
  cases rx
  obtain ⟨t, rfl⟩ := ry
  obtain ⟨its, r, ⟨⟨cls, dd, data, sl⟩, ho, hc, n, hd⟩, hs⟩ := I.tuple hH
  simp only at hc hd
  subst hc hd
  have hle : its.length = xs.length := r.length.symm
  have c0 : (decide (k < -(2 ^ 63)) || decide (k ≥ 2 ^ 63)) = false := by
    rw [decide_eq_false (by omega), decide_eq_false (by omega)] <;> rfl
  have hie : its.toArray.isEmpty = xs.isEmpty := by
    cases r <;> rfl
  by_cases c1 : xs = [] ∨ k = 1
  · have e1 : (its.toArray.isEmpty || k == 1) = true := by
      rw [hie]
      rcases c1 with e | e <;> simp [e]
    refine wpAny_binaryOp_repeat_ref (T := "tuple") (U := "int") (by decide) ⟨_, ho, rfl⟩ (fun s' => typeIs_int s' k t) noFill_tuple_mul F.fills_int_mul F.slot_int_rmul repeat_tuple F.slot_int_index.lookup
      (call_meets F.slot_int_rmul (typeIs_int s k t) F.entry_int_rmul (F.args_int_rmul_2 _ _) (int_rmul_tuple k t l its.toArray n dd sl)
        ⟨ho, rfl, ⟨_, ho, rfl⟩, call_meets F.slot_tuple_mul ⟨_, ho, rfl⟩ F.entry_tuple_mul (F.args_tuple_mul_2 _ _) (tuple_mul1 l its.toArray n dd sl k t c0 e1) ⟨ho, ?_⟩⟩)
    exact ⟨.ref l, H, I, rfl, q1 c1⟩
  · have hne : xs ≠ [] := fun e => c1 (.inl e)
    have hk : k ≤ 0 := by
      by_cases hk : 2 ≤ k
      · exact absurd ⟨hne, hk⟩ c
      · have : k ≠ 1 := fun e => c1 (.inr e)
        omega
    have hne' : xs.isEmpty = false := by cases xs <;> simp_all
    have e1 : (its.toArray.isEmpty || k == 1) = false := by
      rw [hie, hne', Bool.false_or]
      exact beq_eq_false_iff_ne.mpr (by omega)
    have e2 : (decide (k ≤ 0) || its.toArray.isEmpty) = true := by
      rw [decide_eq_true hk]; rfl
    refine wpAny_binaryOp_repeat_ref (T := "tuple") (U := "int") (by decide) ⟨_, ho, rfl⟩ (fun s' => typeIs_int s' k t) noFill_tuple_mul F.fills_int_mul F.slot_int_rmul repeat_tuple F.slot_int_index.lookup
      (call_meets F.slot_int_rmul (typeIs_int s k t) F.entry_int_rmul (F.args_int_rmul_2 _ _) (int_rmul_tuple k t l its.toArray n dd sl)
        ⟨ho, rfl, ⟨_, ho, rfl⟩, call_meets F.slot_tuple_mul ⟨_, ho, rfl⟩ F.entry_tuple_mul (F.args_tuple_mul_2 _ _) (tuple_mul0 l its.toArray n dd sl k t c0 e1 e2) ⟨ho, ?_⟩⟩)
    have ek : k.toNat = 0 := by omega
    rw [ek] at q
    have q' := q s.heap.objs.size (tupObj []) (I.hok.fresh (Nat.le_refl _)) rfl
    exact ⟨.ref s.heap.objs.size, _, layT (its := []) (t' := s.toks) I (xs := []) (Nat.zero_le _) .nil, rfl, by simpa using q'⟩
/-- the operators, on what they make of data -/
def rBin (K : PySem.W.Frag) (op : Operator) : R2 := fun x y H Q => ∃ F a b d, Ex F H ∧ RepO K F H x a ∧ RepO K F H y b ∧ binF op a b = some d ∧ PRes K F H true d Q
theorem PRes.int {K : PySem.W.Frag} {F H : Hp} {fr : Bool} {i : Int} {Q : VK} (h : PRes K F H fr (.int i) Q) : Q (.int i) H := h.dat (fun _ xs e => by cases e) _ (.int i)
theorem PRes.bl {K : PySem.W.Frag} {F H : Hp} {fr : Bool} {i : Bool} {Q : VK} (h : PRes K F H fr (.bl i) Q) : Q (.bl i) H := h.dat (fun _ xs e => by cases e) _ (.bl i)
theorem op_bin (op : Operator) : OpR X (binaryOp op) (rBin X.K op) := by
  intro pins s σ H x y v u Q I rx ry h
  obtain ⟨F, a, b, d, ex, ha, hb, hd, q⟩ := h
  unfold binF at hd
  split at hd
  · rename_i i j
    obtain rfl := ha.int
    obtain rfl := hb.int
    simp only [Option.map_eq_some_iff] at hd
    obtain ⟨k, hk, rfl⟩ := hd
    have q := q.int
    unfold binI at hk
    cases op
    case Add => cases hk; exact op_add pins s σ H _ _ v u Q I rx ry ⟨_, _, rfl, rfl, q⟩
    case Sub => cases hk; exact op_sub pins s σ H _ _ v u Q I rx ry ⟨_, _, rfl, rfl, q⟩
    case Mult =>
      simp only at hk
      split at hk
      · rename_i hc; cases hk; exact op_mulW pins s σ H _ _ v u Q I rx ry ⟨_, _, rfl, rfl, hc, q⟩
      · cases hk
    case FloorDiv =>
      simp only at hk
      split at hk
      · rename_i hc; cases hk; exact op_fdivW pins s σ H _ _ v u Q I rx ry ⟨_, _, rfl, rfl, hc, q⟩
      · split at hk
        · rename_i hc; cases hk; exact op_fdivN pins s σ H _ _ v u Q I rx ry ⟨_, _, rfl, rfl, hc, q⟩
        · cases hk
    case Mod =>
      simp only at hk
      split at hk
      · rename_i hc; cases hk; exact op_mod pins s σ H _ _ v u Q I rx ry ⟨_, _, rfl, rfl, hc, q⟩
      · split at hk
        · rename_i hc; cases hk; exact op_modN pins s σ H _ _ v u Q I rx ry ⟨_, _, rfl, rfl, hc, q⟩
        · cases hk
    case Pow =>
      simp only at hk
      split at hk
      · rename_i hc; cases hk; exact op_pow pins s σ H _ _ v u Q I rx ry ⟨_, _, rfl, rfl, hc, q⟩
      · cases hk
    case LShift =>
      simp only at hk
      split at hk
      · rename_i hc; cases hk; exact op_shl pins s σ H _ _ v u Q I rx ry ⟨_, _, rfl, rfl, hc, q⟩
      · cases hk
    case RShift =>
      simp only at hk
      split at hk
      · rename_i hc; cases hk; exact op_shr pins s σ H _ _ v u Q I rx ry ⟨_, _, rfl, rfl, hc, q⟩
      · cases hk
    case BitAnd => cases hk; exact op_and pins s σ H _ _ v u Q I rx ry ⟨_, _, rfl, rfl, q⟩
    case BitOr => cases hk; exact op_or pins s σ H _ _ v u Q I rx ry ⟨_, _, rfl, rfl, q⟩
    case BitXor => cases hk; exact op_xor pins s σ H _ _ v u Q I rx ry ⟨_, _, rfl, rfl, q⟩
    all_goals cases hk
  · rename_i xs ys
    split at hd
    · rename_i hc
      obtain ⟨rfl, hl⟩ := hc
      cases hd
      obtain ⟨p, vs, rfl, hp, r1⟩ := ha.tup ex
      obtain ⟨p2, ws, rfl, hp2, r2⟩ := hb.tup ex
      refine op_catN pins s σ H _ _ v u Q I rx ry ⟨p, p2, vs, ws, rfl, rfl, hp, hp2, ?_, fun e => ?_, fun e1 e2 => ?_, fun e1 e2 p o hp ho => ?_⟩
      · rw [r1.length, r2.length, ← lim_eq]; exact hl
      · subst e
        cases r1
        rcases hb with hb | ⟨_, _, _, _, hb, _⟩
        · exact q.dat (fun _ xs e => by cases e) _ (by simpa using hb)
        · cases hb
      · subst e2
        cases r2
        rcases ha with ha | ⟨_, _, _, _, ha, _⟩
        · exact q.dat (fun _ xs e => by cases e) _ (by simpa using ha)
        · cases ha
      · exact q.tup _ _ _ _ hp ho rfl (r1.app r2)
    · cases hd
  · rename_i xs ys
    split at hd
    · rename_i hc
      obtain ⟨rfl, hl⟩ := hc
      cases hd
      obtain ⟨p, vs, rfl, hp, r1⟩ := ha.lst ex
      obtain ⟨p2, ws, rfl, hp2, r2⟩ := hb.lst ex
      exact op_catL pins s σ H _ _ v u Q I rx ry ⟨p, p2, vs, ws, rfl, rfl, hp, hp2, by rw [r1.length, r2.length, ← lim_eq]; exact hl, fun p hp => q.lst _ _ _ hp rfl (r1.app r2)⟩
    · cases hd
  · rename_i xs k
    split at hd
    · rename_i hc
      obtain ⟨rfl, h1, h2, h3⟩ := hc
      cases hd
      have ha' := ha
      obtain ⟨p, vs, rfl, hp, r1⟩ := ha.tup ex
      obtain rfl := hb.int
      have hl := r1.length
      refine op_repTA pins s σ H _ _ v u Q I rx ry ⟨p, k, vs, rfl, rfl, hp, h1, h2, by omega, fun e => ?_, fun p o hp ho => q.tup _ _ _ _ hp ho rfl (r1.rep _)⟩
      have e2 : repL xs k = xs := by
        unfold repL
        rcases e with e | e
        · subst e; cases r1; simp
        · subst e; simp
      rw [e2] at q
      rcases ha' with h | ⟨_, _, _, _, h, _⟩
      · exact q.dat (fun _ xs e => by cases e) _ h
      · cases h
    · cases hd
  · rename_i xs k
    split at hd
    · rename_i hc
      obtain ⟨rfl, h1, h2, h3⟩ := hc
      cases hd
      obtain ⟨p, vs, rfl, hp, r1⟩ := ha.lst ex
      obtain rfl := hb.int
      have hl := r1.length
      exact op_repLA pins s σ H _ _ v u Q I rx ry ⟨p, k, vs, rfl, rfl, hp, by omega, by omega, by rw [hl, ← lim_eq]; exact h3, fun p hp => q.lst _ _ _ hp rfl (r1.rep _)⟩
    · cases hd
  · cases hd

def rNeg (K : PySem.W.Frag) : V → Hp → VK → Prop := fun x H Q => ∃ F i, Ex F H ∧ RepO K F H x (.int i) ∧ Q (.int (-i)) H
theorem op_negD : UnR X (unaryOp .USub) (rNeg X.K) := by
  intro pins s σ H x v Q I rx h
  obtain ⟨F, i, _, hx, q⟩ := h
  obtain rfl := hx.int
  exact un_neg pins s σ H _ v Q I rx ⟨i, rfl, q⟩

def rCmp (K : PySem.W.Frag) (op : CmpOp) : R2 := fun x y H Q => ∃ F a b c, Ex F H ∧ RepO K F H x a ∧ RepO K F H y b ∧ cmpF op a b = some c ∧ Q (.bl c) H
theorem rep_non_iff {K : PySem.W.Frag} {F H : Hp} {v : V} {d : D} (h : RepO K F H v d) : decide (v = V.non) = decide (d = D.non) := by
  rcases h with h | ⟨a, vs, xs, rfl, rfl, _⟩
  · cases h <;> simp
  · simp
theorem inF_ok {neg : Bool} {x : D} {xs : List D} {c : Bool} (h : inF neg x xs = some c) : SeqAt.shaped x.py = true ∧ SeqAt.shaped (PyData.list (D.py.pyAll xs)) = true ∧
    c = (if neg = true then !((D.py.pyAll xs).any fun y => PyData.eqv y x.py) else ((D.py.pyAll xs).any fun y => PyData.eqv y x.py)) := by
  unfold inF at h
  split at h
  · rename_i h1
    cases h
    exact ⟨h1.1, h1.2, rfl⟩
  · cases h
theorem rep_bl_iff {K : PySem.W.Frag} {F H : Hp} {v : V} {d : D} {c : Bool} (h : RepO K F H v d) : decide (v = V.bl c) = decide (d = D.bl c) := by
  rcases h with h | ⟨a, vs, xs, rfl, rfl, _⟩
  · cases h <;> simp
  · simp
theorem op_isB : OpR X (compareOp .Is) (fun x y H Q => ∃ F d c, RepO X.K F H x d ∧ y = .bl c ∧ Q (.bl (decide (x = .bl c))) H) := by
  intro pins s σ H x y v u Q I rx ry h
  obtain ⟨F, d, c, hr, rfl, q⟩ := h
  cases ry
  rcases hr with hr | ⟨a, vs, xs, rfl, rfl, _⟩
  · cases hr <;> first
      | (cases rx; exact wpAny_pure (fin_bl I q rfl))
      | (rename_i b; cases rx; exact is_bool (fin_bl I q (by cases b <;> cases c <;> rfl)))
      | (obtain ⟨t, rfl⟩ := rx; exact wpAny_pure (fin_bl I q rfl))
  · cases rx; exact wpAny_pure (fin_bl I q rfl)
theorem op_notB : OpR X (compareOp .IsNot) (fun x y H Q => ∃ F d c, RepO X.K F H x d ∧ y = .bl c ∧ Q (.bl (!decide (x = .bl c))) H) := by
  intro pins s σ H x y v u Q I rx ry h
  obtain ⟨F, d, c, hr, rfl, q⟩ := h
  cases ry
  rcases hr with hr | ⟨a, vs, xs, rfl, rfl, _⟩
  · cases hr <;> first
      | (cases rx; exact wpAny_pure (fin_bl I q rfl))
      | (rename_i b; cases rx; exact isnot_bool (fin_bl I q (by cases b <;> cases c <;> rfl)))
      | (obtain ⟨t, rfl⟩ := rx; exact wpAny_pure (fin_bl I q rfl))
  · cases rx; exact wpAny_pure (fin_bl I q rfl)
/-- comparisons, of data of any depth -/
theorem op_cmpD (hu : X.A.units + 65 < cLine) (op : CmpOp) : OpR X (compareOp op) (rCmp X.K op) := by
  intro pins s σ H x y v u Q I rx ry h
  obtain ⟨F, a, b, c, ex, ha, hb, hc, q⟩ := h
  unfold cmpF at hc
  split at hc
  · unfold eqF at hc
    split at hc
    · rename_i h
      cases hc
      exact op_eqD (by omega) pins s σ H _ _ v u Q I rx ry ⟨_, _, ha.dp ex (SeqAt.depth_of_shaped h.1), hb.dp ex (SeqAt.depth_of_shaped h.2), h.1, h.2, q⟩
    · cases hc
  · unfold eqF at hc
    split at hc
    · rename_i h
      cases hc
      exact op_neD (by omega) pins s σ H _ _ v u Q I rx ry ⟨_, _, ha.dp ex (SeqAt.depth_of_shaped h.1), hb.dp ex (SeqAt.depth_of_shaped h.2), h.1, h.2, q⟩
    · cases hc
  · cases hc
    obtain rfl := hb.non
    exact op_isN pins s σ H _ _ v u Q I rx ry ⟨rfl, by rw [rep_non_iff ha]; exact q⟩
  · cases hc
    obtain rfl := hb.non
    exact op_notN pins s σ H _ _ v u Q I rx ry ⟨rfl, by rw [rep_non_iff ha]; exact q⟩
  · cases hc
    obtain rfl := hb.bl
    exact op_isB pins s σ H _ _ v u Q I rx ry ⟨_, _, _, ha, rfl, by rw [rep_bl_iff ha]; exact q⟩
  · cases hc
    obtain rfl := hb.bl
    exact op_notB pins s σ H _ _ v u Q I rx ry ⟨_, _, _, ha, rfl, by rw [rep_bl_iff ha]; exact q⟩
  · cases hc; obtain rfl := ha.int; obtain rfl := hb.int
    exact op_lt pins s σ H _ _ v u Q I rx ry ⟨_, _, rfl, rfl, q⟩
  · cases hc; obtain rfl := ha.int; obtain rfl := hb.int
    exact op_le pins s σ H _ _ v u Q I rx ry ⟨_, _, rfl, rfl, q⟩
  · cases hc; obtain rfl := ha.int; obtain rfl := hb.int
    exact op_gt pins s σ H _ _ v u Q I rx ry ⟨_, _, rfl, rfl, q⟩
  · cases hc; obtain rfl := ha.int; obtain rfl := hb.int
    exact op_ge pins s σ H _ _ v u Q I rx ry ⟨_, _, rfl, rfl, q⟩
  · split at hc
    · rename_i ns ms e1 e2
      cases hc
      obtain ⟨p, vs, rfl, hp, r1⟩ := ha.tup ex
      obtain ⟨p2, ws, rfl, hp2, r2⟩ := hb.tup ex
      rw [r1.ints e1] at hp
      rw [r2.ints e2] at hp2
      exact op_ltT (by omega) pins s σ H _ _ v u Q I rx ry ⟨_, _, ns, ms, rfl, rfl, hp, hp2, q⟩
    · cases hc
  · obtain ⟨s1, s2, e⟩ := inF_ok hc
    subst e
    obtain ⟨as, r1⟩ := Dp.reads I _ _ _ (ha.dp ex (SeqAt.depth_of_shaped s1)) rx
    obtain ⟨bs, r2⟩ := Dp.reads I _ _ _ (hb.dp ex (by rw [D.py]; exact SeqAt.depth_of_shaped s2)) ry
    rw [D.py] at r2
    exact SeqAt.in_tuple_reads r2 r1 (SeqAt.canLay_of_shaped s2) (SeqAt.canLay_of_shaped s1) (room_in_shaped s1 hu) ⟨.bl _, H, I, rfl, q⟩
  · obtain ⟨s1, s2, e⟩ := inF_ok hc
    subst e
    have hb' := hb.dp ex (by rw [D.py]; exact SeqAt.depth_of_shaped s2)
    rw [D.py] at hb'
    exact op_inD hu pins s σ H _ _ v u Q I rx ry ⟨_, _, ha.dp ex (SeqAt.depth_of_shaped s1), hb', s1, s2, q⟩
  · obtain ⟨s1, s2, e⟩ := inF_ok hc
    subst e
    obtain ⟨as, r1⟩ := Dp.reads I _ _ _ (ha.dp ex (SeqAt.depth_of_shaped s1)) rx
    obtain ⟨bs, r2⟩ := Dp.reads I _ _ _ (hb.dp ex (by rw [D.py]; exact SeqAt.depth_of_shaped s2)) ry
    rw [D.py] at r2
    exact SeqAt.notIn_tuple_reads r2 r1 (SeqAt.canLay_of_shaped s2) (SeqAt.canLay_of_shaped s1) (room_in_shaped s1 hu) ⟨.bl _, H, I, rfl, q⟩
  · obtain ⟨s1, s2, e⟩ := inF_ok hc
    subst e
    have hb' := hb.dp ex (by rw [D.py]; exact SeqAt.depth_of_shaped s2)
    rw [D.py] at hb'
    exact op_notInD hu pins s σ H _ _ v u Q I rx ry ⟨_, _, ha.dp ex (SeqAt.depth_of_shaped s1), hb', s1, s2, q⟩
  · cases hc

/-- a[i] -/
def rIxD (K : PySem.W.Frag) : R2 := fun x y H Q => ∃ F a b d, Ex F H ∧ RepO K F H x a ∧ RepO K F H y b ∧ ixF a b = some d ∧ ∀ v, Rep K F v d → Q v H
theorem atI_rep {K : PySem.W.Frag} {F : Hp} {vs : List V} {xs : List D} {i : Int} {d : D} (r : RepAll K F vs xs) (h : atI xs i = some d) : ∃ v, atI vs i = some v ∧ Rep K F v d := by
  unfold atI at h ⊢
  rw [r.length]
  cases e : ixN xs.length i with
  | none => rw [e] at h; cases h
  | some j =>
    rw [e] at h
    exact r.get' h
theorem ix_D : IxR X (rIxD X.K) := by
  intro value slice pins s σ H x y v u Q I rx ry h hs
  obtain ⟨F, a, b, d, ex, ha, hb, hd, q⟩ := h
  unfold ixF at hd
  split at hd
  · obtain ⟨p, vs, rfl, hp, r1⟩ := ha.tup ex
    obtain rfl := hb.int
    obtain ⟨z, hz, hr⟩ := atI_rep r1 hd
    exact ix_tup value slice pins s σ H _ _ v u Q I rx ry ⟨_, _, _, _, rfl, rfl, hp, hz, q _ hr⟩ hs
  · obtain ⟨p, vs, rfl, hp, r1⟩ := ha.lst ex
    obtain rfl := hb.int
    obtain ⟨z, hz, hr⟩ := atI_rep r1 hd
    exact ix_list value slice pins s σ H _ _ v u Q I rx ry ⟨_, _, _, _, rfl, rfl, hp, hz, q _ hr⟩ hs
  · cases hd
/-- a[lo:hi] -/
def rSlD (K : PySem.W.Frag) : V → Option Int → Option Int → Hp → VK → Prop := fun x lo hi H Q => ∃ F a d, Ex F H ∧ RepO K F H x a ∧ slF lo hi a = some d ∧ PRes K F H true d Q
theorem cut_rep {K : PySem.W.Frag} {F : Hp} {vs : List V} {xs : List D} {lo hi : Option Int} (r : RepAll K F vs xs) : RepAll K F (cutV vs lo hi) (cutL xs lo hi) := by
  unfold cutV cutL
  rw [r.length]
  exact (r.drop _).take _
theorem cutL_whole {xs : List D} {lo hi : Option Int} (h : HT.sIx xs.length 0 lo = 0 ∧ HT.sIx xs.length xs.length hi = xs.length) : cutL xs lo hi = xs := by
  unfold cutL
  rw [h.1, h.2]
  simp
theorem sl_D : SlR X (rSlD X.K) := by
  intro pins s σ H x v vl vu lo hi sl Q I rx hs pl pu h
  obtain ⟨F, a, d, ex, ha, hd, q⟩ := h
  unfold slF at hd
  split at hd
  · cases hd
    have ha' := ha
    obtain ⟨p, vs, rfl, hp, r1⟩ := ha.tup ex
    refine sl_tupN pins s σ H _ v vl vu lo hi sl Q I rx hs pl pu ⟨p, vs, rfl, hp, fun e => ?_, fun _ p o hp ho => q.tup _ _ _ _ hp ho rfl (cut_rep r1)⟩
    rw [r1.length] at e
    rw [cutL_whole e] at q
    rcases ha' with h | ⟨_, _, _, _, h, _⟩
    · exact q.dat (fun _ xs e => by cases e) _ h
    · cases h
  · cases hd
    obtain ⟨p, vs, rfl, hp, r1⟩ := ha.lst ex
    exact sl_list pins s σ H _ v vl vu lo hi sl Q I rx hs pl pu ⟨p, vs, rfl, hp, fun p hp => q.lst _ _ _ hp rfl (cut_rep r1)⟩
  · cases hd
end
end Px
set_option Elab.async false
set_option linter.all false
set_option maxRecDepth 100000
set_option maxHeartbeats 2000000
namespace Px
open PySem PySem.Spec PyProof.Rows L2
/-! ### data that has an order: min, max, sorted; count, index -/
theorem pyAll_map : ∀ xs : List D, D.py.pyAll xs = xs.map D.py
  | [] => rfl
  | x :: xs => by
    show x.py :: D.py.pyAll xs = _
    rw [pyAll_map xs]; rfl
theorem py_none {d : D} (h : d ≠ .non) : d.py ≠ PyData.none := by
  cases d <;> first | (exact absurd rfl h) | (intro e; cases e)
theorem alikeB_ok {xs : List D} (h : alikeB xs = true) : PySem.W.AlikeAll (D.py.pyAll xs) ∧ PyData.depthAll (D.py.pyAll xs) ≤ 60 := by
  unfold alikeB at h
  simp only [Bool.and_eq_true, decide_eq_true_eq] at h
  obtain ⟨⟨h1, h2⟩, h3⟩ := h
  refine ⟨⟨fun x hx y hy => ?_, fun x hx => ?_⟩, h3⟩
  · rw [pyAll_map] at hx hy
    obtain ⟨a, ha, rfl⟩ := List.mem_map.mp hx
    obtain ⟨b, hb, rfl⟩ := List.mem_map.mp hy
    exact List.all_eq_true.mp (List.all_eq_true.mp h1 a ha) b hb
  · rw [pyAll_map] at hx
    obtain ⟨a, ha, rfl⟩ := List.mem_map.mp hx
    have := List.all_eq_true.mp h2 a ha
    simp only [Bool.not_eq_true', decide_eq_false_iff_not] at this
    exact py_none this
theorem pyAll_getD (xs : List D) (i : Nat) : (D.py.pyAll xs).getD i PyData.none = (xs.getD i .non).py := by
  rw [pyAll_map, List.getD_eq_getElem?_getD, List.getD_eq_getElem?_getD, List.getElem?_map]
  cases xs[i]? <;> rfl
section
variable {X : Cx}
/-- the value that stands for a place of a list -/
theorem rep_at {F : Hp} {ws : List V} {its : List Value} {ds : List D} (r : RepAll X.K F ws ds) (rv : Vals ws its) {i : Nat} {v : Value} (h : its.toArray[i]? = some v) : ∃ u, RelV u v ∧ Rep X.K F u (ds.getD i .non) := by
  have hi : i < its.length := by
    rw [Array.getElem?_eq_some_iff] at h
    obtain ⟨h1, _⟩ := h
    simpa using h1
  have hw : i < ws.length := by rw [rv.length]; exact hi
  obtain ⟨u, h1, h2⟩ := rv.get (List.getElem?_eq_getElem hw)
  have h' : its[i]? = some v := by simpa using h
  rw [h1] at h'
  cases h'
  obtain ⟨d, h3, h4⟩ := r.get (List.getElem?_eq_getElem hw)
  refine ⟨_, h2, ?_⟩
  rw [List.getD_eq_getElem?_getD, h3]
  exact h4
theorem call_minA (hc : X.calm = true) (hu : X.A.units + 65 < cLine) : CallR X (.builtin "min") (fun vs H Q => ∃ F a ws x xs, vs = [.ref a] ∧ SqL X.K H a ws ∧ Ex F H ∧ RepAll X.K F ws (x :: xs) ∧ alikeB (x :: xs) = true ∧ ∀ v, Rep X.K F v (xs.foldl (fun a y => if datLt y a then y else a) x) → Q v H) := by
  intro pins s σ H vs us Q I r h
  obtain ⟨F, a, ws, x, xs, rfl, hs, ex, ra, al, q⟩ := h
  obtain ⟨its, rv, hl, hz⟩ := I.list hs
  obtain ⟨al1, al2⟩ := alikeB_ok al
  obtain ⟨as, hr⟩ := Dp.readsAll I _ ws its (ra.dp ex (by omega)) rv
  rw [Vals.ref1 r]
  have hn : its.length = xs.length + 1 := by rw [← rv.length, ra.length]; rfl
  refine PySem.call_min_walkH (PySem.W.iter_listW (A := X.A.in1) (I.ok.hd hc) hl.isList fun s₂ e W st hfp hw hk => ?_)
  refine ⟨_, _, _, _, _, _, _, s.heap, _, rfl, W, st, hfp, by simp; omega, hw, hk, PySem.W.cmpIn_lt (A := X.A.in1) (vs := its.toArray) (by simpa using hr) al1 (show X.A.units + 1 + _ < cLine by omega), fun v s' hP m => ?_⟩
  obtain ⟨h', tk, rfl, hk'⟩ := PySem.W.moved_old e rfl m
  obtain ⟨u, hu1, hu2⟩ := rep_at ra rv hP
  refine ⟨u, H, I.kept hk', hu1, q u ?_⟩
  have e1 : its.toArray.size - 1 = xs.length := by simp; omega
  have e2 := (PySem.W.argBest_fold datLt D.non x xs xs.length (Nat.le_refl _)).2
  rw [List.take_length] at e2
  have e3 : (fun i j => PySem.W.dataLt ((D.py.pyAll (x :: xs)).getD i PyData.none) ((D.py.pyAll (x :: xs)).getD j PyData.none)) = fun i j => datLt ((x :: xs).getD i .non) ((x :: xs).getD j .non) := by
    funext i j
    rw [pyAll_getD, pyAll_getD]; rfl
  rw [e1, e3, e2] at hu2
  exact hu2
theorem call_maxA (hc : X.calm = true) (hu : X.A.units + 65 < cLine) : CallR X (.builtin "max") (fun vs H Q => ∃ F a ws x xs, vs = [.ref a] ∧ SqL X.K H a ws ∧ Ex F H ∧ RepAll X.K F ws (x :: xs) ∧ alikeB (x :: xs) = true ∧ ∀ v, Rep X.K F v (xs.foldl (fun a y => if datLt a y then y else a) x) → Q v H) := by
  intro pins s σ H vs us Q I r h
  obtain ⟨F, a, ws, x, xs, rfl, hs, ex, ra, al, q⟩ := h
  obtain ⟨its, rv, hl, hz⟩ := I.list hs
  obtain ⟨al1, al2⟩ := alikeB_ok al
  obtain ⟨as, hr⟩ := Dp.readsAll I _ ws its (ra.dp ex (by omega)) rv
  rw [Vals.ref1 r]
  have hn : its.length = xs.length + 1 := by rw [← rv.length, ra.length]; rfl
  refine PySem.call_max_walkH (PySem.W.iter_listW (A := X.A.in1) (I.ok.hd hc) hl.isList fun s₂ e W st hfp hw hk => ?_)
  refine ⟨_, _, _, _, _, _, _, s.heap, _, rfl, W, st, hfp, by simp; omega, hw, hk, PySem.W.cmpIn_gt (A := X.A.in1) (vs := its.toArray) (by simpa using hr) al1 (show X.A.units + 1 + _ < cLine by omega), fun v s' hP m => ?_⟩
  obtain ⟨h', tk, rfl, hk'⟩ := PySem.W.moved_old e rfl m
  obtain ⟨u, hu1, hu2⟩ := rep_at ra rv hP
  refine ⟨u, H, I.kept hk', hu1, q u ?_⟩
  have e1 : its.toArray.size - 1 = xs.length := by simp; omega
  have e2 := (PySem.W.argBest_fold (fun a b => datLt b a) D.non x xs xs.length (Nat.le_refl _)).2
  rw [List.take_length] at e2
  have e3 : (fun i j => PySem.W.dataLt ((D.py.pyAll (x :: xs)).getD j PyData.none) ((D.py.pyAll (x :: xs)).getD i PyData.none)) = fun i j => datLt ((x :: xs).getD j .non) ((x :: xs).getD i .non) := by
    funext i j
    rw [pyAll_getD, pyAll_getD]; rfl
  rw [e1, e3, e2] at hu2
  exact hu2
/-- f(x, default=d) -/
theorem bid_depth {f : BI} {xs : List D} {d z : D} (h : bidF f (.lst xs) d = some z) : PyData.depthAll (D.py.pyAll xs) ≤ 64 := by
  cases xs with
  | nil => exact Nat.zero_le _
  | cons x r =>
    have key : alikeB (x :: r) = true := by
      unfold bidF at h
      split at h
      · rename_i e; cases e
        simp only [minDF] at h
        split at h
        · assumption
        · cases h
      · rename_i e; cases e
        simp only [maxDF] at h
        split at h
        · assumption
        · cases h
      · cases h
    have := (alikeB_ok key).2
    omega
def rBid (K : PySem.W.Frag) (f : BI) : List V → List V → Hp → VK → Prop := fun vs zs H Q => ∃ F a d z ws xs y, vs = [.ref a] ∧ zs = [y] ∧ SqL K H a ws ∧ Ex F H ∧ RepAll K F ws xs ∧ RepO K F H y d ∧ bidF f (.lst xs) d = some z ∧ (xs = [] → Q y H) ∧ (xs ≠ [] → ∀ v, Rep K F v z → Q v H)
theorem call_minD (hc : X.calm = true) (hu : X.A.units + 65 < cLine) : CallRK X (.builtin "min") [Str.ofString "default"] (rBid X.K .min) := by
  intro pins s σ H vs zs us ws' Q I r rz h
  obtain ⟨F, a, d, z, ws, xs, y, rfl, rfl, hs, ex, ra, ry, hb, q0, q1⟩ := h
  obtain ⟨its, rv, hl, hz⟩ := I.list hs
  obtain ⟨u1, rfl, ru⟩ := rz.one
  rw [Vals.ref1 r]
  have hn : its.length = xs.length := by rw [← rv.length, ra.length]
  obtain ⟨as, hr⟩ := Dp.readsAll I _ ws its (ra.dp ex (bid_depth hb)) rv
  refine PySem.call_min_walkD (PySem.W.iter_listW (A := X.A.in1) (I.ok.hd hc) hl.isList fun s₂ e W st hfp hw hk => ?_)
  refine ⟨_, _, _, _, _, _, _, s.heap, (fun i j => PySem.W.dataLt ((D.py.pyAll xs).getD i PyData.none) ((D.py.pyAll xs).getD j PyData.none)), rfl, W, st, hfp, hw, hk, fun hz0 s' m => ?_, fun hp => ?_⟩
  · obtain ⟨h', tk, rfl, hk'⟩ := PySem.W.moved_old e rfl m
    exact ⟨y, H, I.kept hk', ru, q0 (List.eq_nil_of_length_eq_zero ((hn.symm.trans (List.size_toArray ..).symm).trans hz0))⟩
  · cases xs with
    | nil =>
      have hsz : its.toArray.size = its.length := by simp
      have : ([] : List D).length = 0 := rfl
      omega
    | cons x xs =>
      have hb : (if alikeB (x :: xs) = true then some (xs.foldl (fun a y => if datLt y a then y else a) x) else none) = some z := hb
      by_cases al : alikeB (x :: xs) = true
      · rw [if_pos al] at hb
        cases hb
        obtain ⟨al1, al2⟩ := alikeB_ok al
        refine ⟨PySem.W.cmpIn_lt (A := X.A.in1) (vs := its.toArray) (by simpa using hr) al1 (show X.A.units + 1 + _ < cLine by omega), fun v s' hP m => ?_⟩
        obtain ⟨h', tk, rfl, hk'⟩ := PySem.W.moved_old e rfl m
        obtain ⟨u, hu1, hu2⟩ := rep_at ra rv hP
        refine ⟨u, H, I.kept hk', hu1, q1 (by simp) u ?_⟩
        have e1 : its.toArray.size - 1 = xs.length := by simp at hn ⊢; omega
        have e2 := (PySem.W.argBest_fold datLt D.non x xs xs.length (Nat.le_refl _)).2
        rw [List.take_length] at e2
        have e3 : (fun i j => PySem.W.dataLt ((D.py.pyAll (x :: xs)).getD i PyData.none) ((D.py.pyAll (x :: xs)).getD j PyData.none)) = fun i j => datLt ((x :: xs).getD i .non) ((x :: xs).getD j .non) := by
          funext i j
          rw [pyAll_getD, pyAll_getD]; rfl
        rw [e1, e3, e2] at hu2
        exact hu2
      · rw [if_neg al] at hb; cases hb
theorem call_maxD (hc : X.calm = true) (hu : X.A.units + 65 < cLine) : CallRK X (.builtin "max") [Str.ofString "default"] (rBid X.K .max) := by
  intro pins s σ H vs zs us ws' Q I r rz h
  obtain ⟨F, a, d, z, ws, xs, y, rfl, rfl, hs, ex, ra, ry, hb, q0, q1⟩ := h
  obtain ⟨its, rv, hl, hz⟩ := I.list hs
  obtain ⟨u1, rfl, ru⟩ := rz.one
  rw [Vals.ref1 r]
  have hn : its.length = xs.length := by rw [← rv.length, ra.length]
  obtain ⟨as, hr⟩ := Dp.readsAll I _ ws its (ra.dp ex (bid_depth hb)) rv
  refine PySem.call_max_walkD (PySem.W.iter_listW (A := X.A.in1) (I.ok.hd hc) hl.isList fun s₂ e W st hfp hw hk => ?_)
  refine ⟨_, _, _, _, _, _, _, s.heap, (fun i j => PySem.W.dataLt ((D.py.pyAll xs).getD j PyData.none) ((D.py.pyAll xs).getD i PyData.none)), rfl, W, st, hfp, hw, hk, fun hz0 s' m => ?_, fun hp => ?_⟩
  · obtain ⟨h', tk, rfl, hk'⟩ := PySem.W.moved_old e rfl m
    exact ⟨y, H, I.kept hk', ru, q0 (List.eq_nil_of_length_eq_zero ((hn.symm.trans (List.size_toArray ..).symm).trans hz0))⟩
  · cases xs with
    | nil =>
      have hsz : its.toArray.size = its.length := by simp
      have : ([] : List D).length = 0 := rfl
      omega
    | cons x xs =>
      have hb : (if alikeB (x :: xs) = true then some (xs.foldl (fun a y => if datLt a y then y else a) x) else none) = some z := hb
      by_cases al : alikeB (x :: xs) = true
      · rw [if_pos al] at hb
        cases hb
        obtain ⟨al1, al2⟩ := alikeB_ok al
        refine ⟨PySem.W.cmpIn_gt (A := X.A.in1) (vs := its.toArray) (by simpa using hr) al1 (show X.A.units + 1 + _ < cLine by omega), fun v s' hP m => ?_⟩
        obtain ⟨h', tk, rfl, hk'⟩ := PySem.W.moved_old e rfl m
        obtain ⟨u, hu1, hu2⟩ := rep_at ra rv hP
        refine ⟨u, H, I.kept hk', hu1, q1 (by simp) u ?_⟩
        have e1 : its.toArray.size - 1 = xs.length := by simp at hn ⊢; omega
        have e2 := (PySem.W.argBest_fold (fun a b => datLt b a) D.non x xs xs.length (Nat.le_refl _)).2
        rw [List.take_length] at e2
        have e3 : (fun i j => PySem.W.dataLt ((D.py.pyAll (x :: xs)).getD j PyData.none) ((D.py.pyAll (x :: xs)).getD i PyData.none)) = fun i j => datLt ((x :: xs).getD j .non) ((x :: xs).getD i .non) := by
          funext i j
          rw [pyAll_getD, pyAll_getD]; rfl
        rw [e1, e3, e2] at hu2
        exact hu2
      · rw [if_neg al] at hb; cases hb
/-- sorted(l) -/
theorem call_sortedA (hu : X.A.units + 65 < cLine) : CallR X (.builtin "sorted") (fun vs H Q => ∃ F a ws xs, vs = [.ref a] ∧ SqL X.K H a ws ∧ Ex F H ∧ RepAll X.K F ws xs ∧ okSort xs = true ∧ ∀ p us, H p = none → RepAll X.K F us (srtD xs) → Q (.ref p) (upd H p (.lst us))) := by
  intro pins s σ H vs us Q I r h
  obtain ⟨F, a, ws, xs, rfl, hs, ex, ra, ok, q⟩ := h
  unfold okSort at ok
  simp only [Bool.and_eq_true, Bool.or_eq_true, decide_eq_true_eq] at ok
  obtain ⟨⟨al, hk⟩, hlen⟩ := ok
  obtain ⟨al1, al2⟩ := alikeB_ok al
  obtain ⟨its, rv, hl, hz⟩ := I.list hs
  rw [Vals.ref1 r]
  obtain ⟨as, hr⟩ := Dp.readsAll I _ ws its (ra.dp ex (by omega)) rv
  -- the values with what they stand for
  have each : ∀ (ws : List V) (its : List Value) (xs : List D) (as : List Addr), Vals ws its → RepAll X.K F ws xs → ReadsAll s.heap its (D.py.pyAll xs) as →
      ∃ bs : List (V × D), bs.map (·.2) = xs ∧ PySem.W.EachIs (fun u b => RelV b.1 u ∧ Rep X.K F b.1 b.2) its bs ∧ PySem.W.EachIs (fun v (b : V × D) => ∃ as, Reads s.heap v b.2.py as) its bs := by
    intro ws
    induction ws with
    | nil =>
      intro its xs as h1 h2 h3
      cases h1; cases h2
      exact ⟨[], rfl, .nil, .nil⟩
    | cons w ws ih =>
      intro its xs as h1 h2 h3
      cases h1 with
      | cons r1 r2 =>
        cases h2 with
        | cons e1 e2 =>
          cases h3 with
          | cons k1 k2 =>
            obtain ⟨bs, b1, b2, b3⟩ := ih _ _ _ r2 e2 k2
            exact ⟨(w, _) :: bs, by simp [b1], .cons ⟨r1, e1⟩ b2, .cons ⟨_, k1⟩ b3⟩
  obtain ⟨bs, hb, e1, e2⟩ := each ws its xs as rv ra hr
  have hmap : bs.map (fun b => b.2.py) = D.py.pyAll xs := by
    rw [pyAll_map, ← hb, List.map_map]; rfl
  have hbl : bs.length = xs.length := by rw [← hb, List.length_map]
  refine PySem.W.sorted_data (β := V × D) (enc := fun b => b.2.py) hl.isList e1 e2 ?_ ?_ (by rw [hbl, ← lim_eq]; exact hlen) ?_ fun out ho he => ?_
  · rw [hmap]; exact fun d hd d' hd' => al1.1 d hd d' hd'
  · rw [hmap, pyAll_map]
    rcases hk with hk | hk
    · refine .inl fun d hd => ?_
      obtain ⟨x, hx, rfl⟩ := List.mem_map.mp hd
      have := List.all_eq_true.mp hk x hx
      unfold tupNE at this
      split at this
      · exact ⟨_, _, rfl⟩
      · cases this
    · refine .inr fun d hd => ?_
      obtain ⟨x, hx, rfl⟩ := List.mem_map.mp hd
      have := List.all_eq_true.mp hk x hx
      cases x <;> first | (simp [notTN] at this; done) | exact ⟨(fun e => by cases e), (fun xs e => by cases e)⟩
  · intro b hb'
    have : b.2.py ∈ D.py.pyAll xs := by rw [← hmap]; exact List.mem_map_of_mem hb'
    have hd : ∀ (l : List PyData) (d : PyData), d ∈ l → d.depth ≤ PyData.depthAll l := by
      intro l
      induction l with
      | nil => intro d h; cases h
      | cons y l ih =>
        intro d h
        show d.depth ≤ max y.depth (PyData.depthAll l)
        rcases List.mem_cons.mp h with rfl | h
        · omega
        · have := ih d h; omega
    have := hd _ _ this
    omega
  · have hsrt : (bs.mergeSort (PySem.W.dataLe false fun b => b.2.py)).map (·.2) = srtD xs := by
      unfold srtD
      rw [← hb]
      exact List.map_mergeSort (fun a _ b _ => rfl)
    have split : ∀ (out : List Value) (cs : List (V × D)), PySem.W.EachIs (fun u b => RelV b.1 u ∧ Rep X.K F b.1 b.2) out cs → Vals (cs.map (·.1)) out ∧ RepAll X.K F (cs.map (·.1)) (cs.map (·.2)) := by
      intro out cs h
      induction h with
      | nil => exact ⟨.nil, .nil⟩
      | cons h1 h2 ih => exact ⟨.cons h1.1 ih.1, .cons h1.2 ih.2⟩
    obtain ⟨v1, v2⟩ := split _ _ he
    rw [hsrt] at v2
    obtain ⟨ep, he'⟩ := PyProof.Rows.sortedAll_at s.heap its out.toArray
    have hl2 : (List.map (·.1) (bs.mergeSort (PySem.W.dataLe false fun b => b.2.py))).length ≤ sizeLine := by
      rw [v1.length, ho, hbl, ← lim_eq]; exact hlen
    exact ⟨.ref _, upd H (s.heap.objs.size + 1) (.lst _), I.laid (t' := s.toks) (fun _ _ => PyProof.Rows.sortedAll_old) (Nat.le_succ _) ⟨hl2, out, ep, v1, he'⟩, rfl, q _ _ (I.hok.fresh (Nat.le_succ _)) v2⟩
/-- count, index -/
def rMthD (K : PySem.W.Frag) (m : MT) (tup : Bool) : V → List V → Hp → VK → Prop := fun x xs H Q => ∃ F a ws ds y d z, x = .ref a ∧ xs = [y] ∧ (if tup then SqT K H a ws else SqL K H a ws) ∧ Ex F H ∧ RepAll K F ws ds ∧ RepO K F H y d ∧ mthF m (if tup then .tup ds else .lst ds) d = some z ∧ ∀ v, Rep K F v z → Q v H
theorem cntF_ok {ds : List D} {d z : D} (h : cntF ds d = some z) : PyData.plainAll (D.py.pyAll ds) = true ∧ d.py.plain = true ∧ SeqAt.shaped d.py = true ∧ SeqAt.shaped (PyData.list (D.py.pyAll ds)) = true ∧ z = .int (((D.py.pyAll ds).countP fun y => PyData.eqv y d.py : Nat) : Int) := by
  unfold cntF at h
  split at h
  · rename_i c; cases h; exact ⟨c.1, c.2.1, c.2.2.1, c.2.2.2, rfl⟩
  · cases h
theorem mt_countL (hu : X.A.units + 65 < cLine) : MtR X "list.count" (rMthD X.K .count false) := by
  intro pins s σ H x xs v us Q I rx rxs h
  obtain ⟨F, a, ws, ds, y, d, z, rfl, rfl, hs, ex, ra, ry, hz, q⟩ := h
  cases rx
  obtain ⟨uy, rfl, ru⟩ := rxs.one
  obtain ⟨h1, h2, h3, h4, rfl⟩ := cntF_ok hz
  obtain ⟨its, rv, hl, _⟩ := I.list hs
  obtain ⟨as, hr⟩ := Dp.readsAll I _ ws its (ra.dp ex (by have := SeqAt.depth_of_shaped h4; have e : PyData.depthAll (D.py.pyAll ds) + 1 ≤ 64 := this; omega)) rv
  obtain ⟨bs, rb⟩ := Dp.reads I _ y uy (ry.dp ex (SeqAt.depth_of_shaped h3)) ru
  refine PySem.SeqAt.count_list_data (vs := its.toArray) hl.isList (by simpa using hr) rb h1 h2 (room_in_shaped h3 hu) ?_
  exact ⟨.int _, H, I.kept (h' := s.heap) (t' := s.toks + 1) fun b u e => e, ⟨_, rfl⟩, q _ (.int _)⟩
theorem mt_indexL (hu : X.A.units + 65 < cLine) : MtR X "list.index" (rMthD X.K .index false) := by
  intro pins s σ H x xs v us Q I rx rxs h
  obtain ⟨F, a, ws, ds, y, d, z, rfl, rfl, hs, ex, ra, ry, hz, q⟩ := h
  have hz : idxF ds d = some z := hz
  unfold idxF at hz
  split at hz
  · rename_i c
    rw [Option.map_eq_some_iff] at hz
    obtain ⟨j, hj, rfl⟩ := hz
    rw [List.findIdx?_eq_some_iff_getElem] at hj
    obtain ⟨hl, hp, hno⟩ := hj
    refine mt_indexD hu pins s σ H _ _ v us Q I rx rxs ⟨a, y, d.py, D.py.pyAll ds, j, (D.py.pyAll ds)[j], rfl, rfl, .lst hs (ra.dp ex (by have := SeqAt.depth_of_shaped c.2; have e : PyData.depthAll (D.py.pyAll ds) + 1 ≤ 64 := this; omega)), ry.dp ex (SeqAt.depth_of_shaped c.1), c.2, c.1, List.getElem?_eq_getElem hl, hp, fun m z' hm hz' => ?_, q _ (.int _)⟩
    obtain ⟨h1, h2⟩ := List.getElem?_eq_some_iff.mp hz'
    rw [← h2]
    have := hno m hm
    simpa using this
  · cases hz
theorem mt_countT (hu : X.A.units + 65 < cLine) : MtR X "tuple.count" (rMthD X.K .count true) := by
  intro pins s σ H x xs v us Q I rx rxs h
  obtain ⟨F, a, ws, ds, y, d, z, rfl, rfl, hs, ex, ra, ry, hz, q⟩ := h
  cases rx
  obtain ⟨uy, rfl, ru⟩ := rxs.one
  obtain ⟨h1, h2, h3, h4, rfl⟩ := cntF_ok hz
  obtain ⟨its, rv, hl, _⟩ := I.tuple hs
  obtain ⟨as, hr⟩ := Dp.readsAll I _ ws its (ra.dp ex (by have := SeqAt.depth_of_shaped h4; have e : PyData.depthAll (D.py.pyAll ds) + 1 ≤ 64 := this; omega)) rv
  obtain ⟨bs, rb⟩ := Dp.reads I _ y uy (ry.dp ex (SeqAt.depth_of_shaped h3)) ru
  refine PySem.SeqAt.count_tuple_data (vs := its.toArray) hl (by simpa using hr) rb h1 h2 (room_in_shaped h3 hu) ?_
  exact ⟨.int _, H, I.kept (h' := s.heap) (t' := s.toks + 1) fun b u e => e, ⟨_, rfl⟩, q _ (.int _)⟩
theorem mt_indexT (hu : X.A.units + 65 < cLine) : MtR X "tuple.index" (rMthD X.K .index true) := by
  intro pins s σ H x xs v us Q I rx rxs h
  obtain ⟨F, a, ws, ds, y, d, z, rfl, rfl, hs, ex, ra, ry, hz, q⟩ := h
  have hz : idxPF ds d = some z := hz
  unfold idxPF at hz
  split at hz
  · rename_i c
    obtain ⟨h1, h2, h3, h4⟩ := c
    rw [Option.map_eq_some_iff] at hz
    obtain ⟨j, hj, rfl⟩ := hz
    cases rx
    obtain ⟨uy, rfl, ru⟩ := rxs.one
    obtain ⟨its, rv, hl, _⟩ := I.tuple hs
    obtain ⟨as, hr⟩ := Dp.readsAll I _ ws its (ra.dp ex (by have := SeqAt.depth_of_shaped h4; have e : PyData.depthAll (D.py.pyAll ds) + 1 ≤ 64 := this; omega)) rv
    obtain ⟨bs, rb⟩ := Dp.reads I _ y uy (ry.dp ex (SeqAt.depth_of_shaped h3)) ru
    obtain ⟨⟨cls, dd, dt, sl⟩, ho, hc, n, hd⟩ := hl
    simp only at hc hd
    subst hc
    subst hd
    have hr' : PySem.ReadsAll s.heap its.toArray.toList (D.py.pyAll ds) as := by simpa using hr
    obtain ⟨hj2, hit, hno⟩ := PySem.SeqAt.hit_at hr' h1 hj
    exact call_meets PySem.F.slot_tuple_index ⟨_, ho, rfl⟩ PySem.F.entry_tuple_index (PySem.F.args_tuple_index_2 _ _) (TI.tuple_indexAt a its.toArray n dd sl uy (fun y => PyData.eqv (SeqAt.readOf s.heap y) d.py) j hj2 hit hno)
      ⟨ho, PySem.SeqAt.items_plain hr' rb h1 h2 (room_in_shaped h3 hu), .int _, H, I.kept (h' := s.heap) (t' := s.toks + 1) fun b u e => e, ⟨_, rfl⟩, q _ (.int _)⟩
  · cases hz
theorem tupN_is {pins : List (Addr × Obj)} {σ : L2.St} {H : Hp} {s : Shared} {p : Addr} {vs : List V} (I : Inv X pins σ H s) (h : TupN H p vs) : s.TypeIs (.ref p) "tuple" ∧ ∀ a, Value.ref p = .ref a → ∃ ob, s.heap.get? a = some ob ∧ ob.dict = none := by
  obtain ⟨o, h1, h2⟩ := h
  obtain ⟨h3, _, its, _, o', h4, hc, _⟩ := I.hok p _ h1
  refine ⟨⟨o', h4, hc⟩, fun a e => ?_⟩
  cases e
  exact ⟨o, h3, h2⟩
/-- o.m(..), o a list or a tuple -/
def tMD (K : PySem.W.Frag) (m : MT) (to : TE) (t : TA) : TE := fun σ H Q => to σ H fun x H1 => ∃ p, x = .ref p ∧ (((∃ xs, SqL K H1 p xs) ∧ t σ H1 fun xs H2 => rMthD K m false x xs H2 Q) ∨ ((∃ xs, TupN H1 p xs) ∧ t σ H1 fun xs H2 => rMthD K m true x xs H2 Q))
theorem pe_mD {m : MT} {o e : Expr} {es : List Expr} {to : TE} {t : TA} {apos cpos : Pos} (hu : X.A.units + 65 < cLine) (ho : PE X o to) (ha : PA X (e :: es) t)
    (hbase : attributeBase o (Str.ofString m.nm) X.env (eval o X.env) = eval o X.env)
    (hfew : ((backTo cpos (starEach (e :: es) X.env)).all (fun x => !x.1) && (backToKw cpos (keywordEach [] X.env)).all (fun x => x.1.isSome)
      && decide ((e :: es).length + ([] : List Keyword).length + (if ([] : List Keyword).isEmpty then 0 else 1) < 30)) = true)
    (hline : (apos.endLine == cpos.line) = true) (hs : starEach (e :: es) X.env = (false, eval e X.env) :: starEach es X.env) (hplain : (backTo cpos (starEach es X.env)).any (·.1) = false) :
    PE X (.Call (.Attribute o (Str.ofString m.nm) apos) (e :: es) [] cpos) (tMD X.K m to t) := by
  refine ⟨fun pins s σ H Q I h => ?_⟩
  refine wpAny_Call_method_late hbase hfew hline rfl (thn (ho.run pins s σ H _ I h) fun v s1 ⟨x, H1, I1, r1, p, ex, hq⟩ => ?_)
  subst ex
  cases r1
  have go : ∀ (T id : String) (r : V → List V → Hp → VK → Prop), PlainAttrs T → PySem.Slot T (Str.ofString m.nm) id → typeOf (.builtin id) = pure (.type "method_descriptor") → MtR X id r → s1.TypeIs (.ref p) T → (∀ a, Value.ref p = .ref a → ∃ ob, s1.heap.get? a = some ob ∧ ob.dict = none) →
      (t σ H1 fun xs H2 => r (.ref p) xs H2 Q) → MethodOn X.prog X.w X.A (Str.ofString m.nm) cpos (.ref p) (backTo cpos (starEach (e :: es) X.env)) (EP X pins σ Q) X.xe s1 := fun T id r pa slot hty hm h1 h2 q1 => by
    refine ⟨T, id, pa, slot, hty, h1, h2, ?_⟩
    have hA := ha.run cpos pins s1 σ H1 _ I1 q1
    rw [hs] at hA ⊢
    refine Calls.callWith_builtin (by show (false || (backTo cpos (starEach es X.env)).any (·.1)) = false; rw [hplain] <;> rfl) (Calls.evalArgs_plain ?_)
    exact thn hA fun us s2 ⟨vs, H2, I2, r2, q2⟩ => hm pins s2 σ H2 (.ref p) vs (.ref p) us Q I2 rfl r2 q2
  rcases hq with ⟨⟨xs, hx⟩, q1⟩ | ⟨⟨xs, hx⟩, q1⟩
  · obtain ⟨h1, h2⟩ := tyV_is (T := "list") (x := .ref p) I1 rfl (.inl ⟨rfl, xs, hx⟩)
    cases m with
    | count => exact go _ _ _ PySem.F.plainAttrs_list PySem.F.slot_list_count PySem.F.type_list_count (mt_countL hu) h1 h2 q1
    | index => exact go _ _ _ PySem.F.plainAttrs_list PySem.F.slot_list_index PySem.F.type_list_index (mt_indexL hu) h1 h2 q1
  · obtain ⟨h1, h2⟩ := tupN_is I1 hx
    cases m with
    | count => exact go _ _ _ PySem.F.plainAttrs_tuple PySem.F.slot_tuple_count PySem.F.type_tuple_count (mt_countT hu) h1 h2 q1
    | index => exact go _ _ _ PySem.F.plainAttrs_tuple PySem.F.slot_tuple_index PySem.F.type_tuple_index (mt_indexT hu) h1 h2 q1
/-! ### x[::-1] -/
section
variable {prog : Program} {w : World} {A : Around} {E : Value → Shared → Prop} {s : Shared}
theorem adjust_rev (n : Nat) : Builtin.Slice.sliceAdjust none none (-1) (n : Int) = ((n : Int) - 1, -1) := rfl
theorem places_rev (n : Nat) : Builtin.Slice.slicePlaces ((n : Int) - 1) (-1) (-1) = n := by
  unfold Builtin.Slice.slicePlaces
  rw [if_neg (by decide : ¬ ((-1 : Int) > 0))]
  by_cases h : (n : Int) - 1 > -1
  · rw [if_pos h, show (-(-1) : Int) = 1 by decide, Int.ediv_one]; omega
  · rw [if_neg h]; omega
theorem sliceApplied_rev {sl : Addr} {vl vu vs : Value} {n : Nat} {Q : Int × Int × Nat → Shared → Prop} (hs : s.heap.IsSliceOf sl vl vu vs) (pl : IsPart vl none) (pu : IsPart vu none) (ps : IsPart vs (some (-1)))
    (h : Q ((n : Int) - 1, -1, n) s) : wpAny (model prog w) A (Builtin.Slice.sliceApplied (.ref sl) (pure (n : Int))) Q E s := by
  obtain ⟨os, hos, hcs, hds⟩ := id hs
  unfold Builtin.Slice.sliceApplied Builtin.Slice.sliceFields
  refine wpAny_bind (wpAny_bind (wpAny_field hos hds (x := vl) rfl (wpAny_bind (wpAny_field hos hds (x := vu) rfl (wpAny_bind (wpAny_field hos hds (x := vs) rfl (wpAny_pure ?_)))))))
  refine wpAny_bind (HT.slicePart_ ps ?_)
  show wpAny _ _ (if ((-1 : Int) == 0) = true then _ else _) _ _ s
  rw [if_neg (by decide)]
  refine wpAny_bind (HT.slicePart_ pl (wpAny_bind (HT.slicePart_ pu (wpAny_bind (wpAny_pure ?_)))))
  show wpAny _ _ (match Builtin.Slice.sliceAdjust none none (-1) (n : Int) with | (lo, hi) => pure (lo, (-1 : Int), Builtin.Slice.slicePlaces lo hi (-1))) _ _ s
  rw [adjust_rev n]
  show wpAny _ _ (pure ((n : Int) - 1, (-1 : Int), Builtin.Slice.slicePlaces ((n : Int) - 1) (-1) (-1))) _ _ s
  rw [places_rev]
  exact wpAny_pure h
theorem pick_rev (xs : Array Value) : ((List.range xs.size).filterMap fun (m : Nat) => xs[(((xs.size : Int) - 1) + (m : Int) * (-1)).toNat]?).toArray = xs.toList.reverse.toArray := by
  have cg : ∀ (l : List Nat) (f g : Nat → Option Value), (∀ m ∈ l, f m = g m) → l.filterMap f = l.filterMap g := by
    intro l f g
    induction l with
    | nil => intro _; rfl
    | cons a l ih => intro h; rw [List.filterMap_cons, List.filterMap_cons, h a (by simp), ih (fun m hm => h m (by simp [hm]))]
  have e : (List.range xs.size).filterMap (fun (m : Nat) => xs[(((xs.size : Int) - 1) + (m : Int) * (-1)).toNat]?) = ((List.range xs.size).map fun k => xs.size - 1 - k).filterMap (xs[·]?) := by
    rw [List.filterMap_map]
    refine cg _ _ _ fun m hm => ?_
    have h2 := List.mem_range.mp hm
    have : (((xs.size : Int) - 1) + (m : Int) * (-1)).toNat = xs.size - 1 - m := by omega
    show xs[_]? = xs[_]?
    rw [this]
  rw [e, PySem.W.krv_range, List.filterMap_reverse, PySem.W.krv_all]
theorem getItem_tuple_rev {t sl : Addr} {items : Array Value} {vl vu vs : Value} {Q : Value → Shared → Prop} (ht : IsTup s.heap t items) (hs : s.heap.IsSliceOf sl vl vu vs) (pl : IsPart vl none) (pu : IsPart vu none) (ps : IsPart vs (some (-1)))
    (h : Q (.ref s.heap.objs.size) { s with heap := s.heap.push { cls := .type "tuple", data := .seq items.toList.reverse.toArray } })
    (hsz : items.size ≤ sizeLine) : wpAny (model prog w) A (getItem (.ref t) (.ref sl)) Q E s := by
  have htake : sizeOk (.seq items.toList.reverse.toArray) := by
    show items.toList.reverse.toArray.size ≤ sizeLine
    simpa using hsz
  obtain ⟨os, hos, hcs, hds⟩ := id hs
  have hTs : s.TypeIs (.ref sl) "slice" := ⟨os, hos, hcs⟩
  unfold getItem
  try with_reducible refine wpAny_holding ?_
  first | refine wpAny_bind (wpAny_pure ?_) | skip
  refine wpAny_bind (wpAny_sequenceKey ht.typeIs (by decide) ?_)
  refine wpAny_bind (wpAny_callSpecial?_slot (name := Str.ofString "__getitem__") ht.typeIs PyProof.Rows.slot_tuple_getitem
    (wpAny_call_entry PyProof.Rows.slot_tuple_getitem ht.typeIs entry_tuple_getitem ?_ (args_tuple_getitem _ _)))
  show wpAny _ _ (Builtin.Tuple.tupleItemsOf (.ref t) >>= _) _ _ s
  refine wpAny_bind (tupleItemsOf_ ht ?_)
  refine wpAny_bind (wpAny_typeOf hTs ?_)
  rw [if_pos (by decide)]
  refine wpAny_bind (sliceApplied_rev hs pl pu ps ?_)
  have hno : ¬ (((((items.size : Int) - 1)) == 0 && (-1 : Int) == 1 && items.size == items.size) = true) := by
    rw [show ((-1 : Int) == 1) = false by decide, Bool.and_false, Bool.false_and]
    exact Bool.false_ne_true
  show wpAny _ _ (if ((((items.size : Int) - 1)) == 0 && (-1 : Int) == 1 && items.size == items.size) = true then _ else _) _ _ s
  rw [if_neg hno, pick_rev]
  first
    | exact wpAny_bind (m := Builtin.Tuple.tupleExact _) (wpAny_newObj_type (wpAny_pure ⟨_, rfl, wpAny_pure h⟩) htake)
    | exact wpAny_bind (m := Builtin.Tuple.tupleExact _) (wpAny_newObj_type (wpAny_bind (wpAny_pure (wpAny_pure ⟨_, rfl, wpAny_pure h⟩))) htake)
    | exact wpAny_bind (wpAny_bind (m := Builtin.Tuple.tupleExact _) (wpAny_newObj_type (wpAny_pure (wpAny_pure ⟨_, rfl, wpAny_pure h⟩)) htake))
    | exact wpAny_bind (wpAny_bind (m := Builtin.Tuple.tupleExact _) (wpAny_newObj_type (wpAny_pure ⟨_, rfl, wpAny_pure h⟩) htake))
end
def rRevD (K : PySem.W.Frag) : V → Hp → VK → Prop := fun x H1 Q => ∃ a xs, x = .ref a ∧ ((SqL K H1 a xs ∧ ∀ p, H1 p = none → Q (.ref p) (upd H1 p (.lst xs.reverse))) ∨ (SqT K H1 a xs ∧ ∀ p (o : Obj), H1 p = none → o.dict = none → Q (.ref p) (upd H1 p (.frz o (.tup xs.reverse)))))
theorem pe_revD {e : Expr} {te : TE} {k : Nat} {p1 p2 p3 pos : Pos} (he : PE X e te) : PE X (.Subscript e (.Slice none none (some (.UnaryOp .USub (.Constant (.int 1) k p1) p2)) p3) pos) (tUn (rRevD X.K) te) := by
  refine ⟨fun pins s σ H Q I h => ?_⟩
  refine Subscript_ (thn (he.run pins s σ H _ I h) fun v s1 ⟨x, H1, I1, r1, q1⟩ => ?_)
  obtain ⟨a, xs, ex, hq⟩ := q1
  subst ex
  cases r1
  have hst : PO X (some (.UnaryOp .USub (.Constant (.int 1) k p1) p2)) (tPart (tUn (rU fun i => .int (-i)) (tC (.int 1)))) := po_some (pe_un un_neg pe_int)
  refine wpAny_Slice (thn (po_none.run pins s1 σ H1 (fun o H2 => o = none ∧ H2 = H1) I1 ⟨rfl, rfl⟩) fun vl s2 ⟨l, H2, I2, pl, el, e2⟩ => ?_)
  subst el e2
  refine thn (po_none.run pins s2 σ H2 (fun o H3 => o = none ∧ H3 = H2) I2 ⟨rfl, rfl⟩) fun vu s3 ⟨u, H3, I3, pu, eu, e3⟩ => ?_
  subst eu e3
  refine thn (hst.run pins s3 σ H3 (fun o H4 => o = some (-1) ∧ H4 = H3) I3 ⟨1, rfl, -1, rfl, rfl, rfl⟩) fun vs s4 ⟨o, H4, I4, ps, eo, e4⟩ => ?_
  subst eo e4
  have I5 : Inv X pins σ H4 { s4 with heap := s4.heap.push { cls := .type "slice", data := .fields #[vl, vu, vs] } } := I4.kept (t' := s4.toks) fun b ob q => Heap.get?_push_of_some _ q
  show wpAny (model X.prog X.w) X.A (subscriptTail e (.Slice none none (some (.UnaryOp .USub (.Constant (.int 1) k p1) p2)) p3) (.ref a) (.ref s4.heap.objs.size)) (EP X pins σ Q) X.xe { s4 with heap := s4.heap.push { cls := .type "slice", data := .fields #[vl, vu, vs] } }
  rcases hq with ⟨hx, q⟩ | ⟨hx, q⟩
  · obtain ⟨its, r, ht, hz⟩ := I5.list hx
    have hlen := r.length
    refine tail_any (ops := [.ref a, .ref s4.heap.objs.size]) ht.isList.typeIs (PySem.slot_list_getitem.lookup) ?_ (by with_unfolding_all rfl)
    refine wpAny_getItem_list_slice ht.isList (Heap.IsSliceOf.new _ vl vu vs) pl pu ps (by decide) ?_ (by rw [List.size_toArray]; omega)
    rw [PySem.W.krv_pick]
    refine ⟨.ref _, _, I5.laid (t' := s4.toks) (o := .lst xs.reverse) (fun b ob q => Heap.get?_push_of_some _ q) (Nat.le_refl _) ?_, rfl, q _ (I5.hok.fresh (Nat.le_refl _))⟩
    exact ⟨by rw [List.length_reverse]; exact hz, _, 0, r.reverse, Heap.get?_push_size _ rfl⟩
  · obtain ⟨its, r, ht, hz⟩ := I5.tuple hx
    have hlen := r.length
    refine tail_any (ops := [.ref a, .ref s4.heap.objs.size]) ht.typeIs (PyProof.Rows.slot_tuple_getitem.lookup) ?_ (by with_unfolding_all rfl)
    refine getItem_tuple_rev ht (Heap.IsSliceOf.new _ vl vu vs) pl pu ps ?_ (by rw [List.size_toArray]; omega)
    exact ⟨.ref _, _, layT (t' := s4.toks) I5 (by rw [List.length_reverse]; exact hz) r.reverse, rfl, q _ _ (I5.hok.fresh (Nat.le_refl _)) rfl⟩
end
end Px
set_option Elab.async false
set_option linter.all false
set_option maxRecDepth 100000
set_option maxHeartbeats 2000000
namespace Px
open PySem PySem.Spec PyProof.Rows L2
/-- values and the data they stand for, one by one -/
inductive RepOs (K : PySem.W.Frag) (F H : Hp) : List V → List D → Prop
  | nil : RepOs K F H [] []
  | cons {v : V} {vs : List V} {d : D} {ds : List D} : RepO K F H v d → RepOs K F H vs ds → RepOs K F H (v :: vs) (d :: ds)
theorem maxL_ok : ∀ {ns : List Int} {m : Int}, maxL ns = some m → m ∈ ns ∧ ∀ y ∈ ns, y ≤ m
  | [], _, h => by cases h
  | x :: xs, m, h => by
    have h' : xs.foldl (fun m y => if m < y then y else m) x = m := Option.some.inj h
    have gen : ∀ (l : List Int) (a : Int), (l.foldl (fun m y => if m < y then y else m) a = a ∨ l.foldl (fun m y => if m < y then y else m) a ∈ l) ∧ a ≤ l.foldl (fun m y => if m < y then y else m) a ∧ ∀ y ∈ l, y ≤ l.foldl (fun m y => if m < y then y else m) a := by
      intro l
      induction l with
      | nil => intro a; exact ⟨.inl rfl, Int.le_refl _, fun y hy => absurd hy (by simp)⟩
      | cons z l ih =>
        intro a
        obtain ⟨h1, h2, h3⟩ := ih (if a < z then z else a)
        simp only [List.foldl_cons]
        have ha : a ≤ (if a < z then z else a) := by split <;> omega
        have hz : z ≤ (if a < z then z else a) := by split <;> omega
        refine ⟨?_, Int.le_trans ha h2, fun y hy => ?_⟩
        · rcases h1 with e | e
          · rw [e]
            split
            · exact .inr (by simp)
            · exact .inl rfl
          · exact .inr (List.mem_cons_of_mem _ e)
        · rcases List.mem_cons.mp hy with e | e
          · subst e; exact Int.le_trans hz h2
          · exact h3 y e
    obtain ⟨h1, h2, h3⟩ := gen xs x
    rw [h'] at h1 h2 h3
    refine ⟨?_, fun y hy => ?_⟩
    · rcases h1 with e | e
      · rw [e]; simp
      · exact List.mem_cons_of_mem _ e
    · rcases List.mem_cons.mp hy with e | e
      · subst e; exact h2
      · exact h3 y e
theorem minL_ok : ∀ {ns : List Int} {m : Int}, minL ns = some m → m ∈ ns ∧ ∀ y ∈ ns, m ≤ y
  | [], _, h => by cases h
  | x :: xs, m, h => by
    have h' : xs.foldl (fun m y => if y < m then y else m) x = m := Option.some.inj h
    have gen : ∀ (l : List Int) (a : Int), (l.foldl (fun m y => if y < m then y else m) a = a ∨ l.foldl (fun m y => if y < m then y else m) a ∈ l) ∧ l.foldl (fun m y => if y < m then y else m) a ≤ a ∧ ∀ y ∈ l, l.foldl (fun m y => if y < m then y else m) a ≤ y := by
      intro l
      induction l with
      | nil => intro a; exact ⟨.inl rfl, Int.le_refl _, fun y hy => absurd hy (by simp)⟩
      | cons z l ih =>
        intro a
        obtain ⟨h1, h2, h3⟩ := ih (if z < a then z else a)
        simp only [List.foldl_cons]
        have ha : (if z < a then z else a) ≤ a := by split <;> omega
        have hz : (if z < a then z else a) ≤ z := by split <;> omega
        refine ⟨?_, Int.le_trans h2 ha, fun y hy => ?_⟩
        · rcases h1 with e | e
          · rw [e]
            split
            · exact .inr (by simp)
            · exact .inl rfl
          · exact .inr (List.mem_cons_of_mem _ e)
        · rcases List.mem_cons.mp hy with e | e
          · subst e; exact Int.le_trans h2 hz
          · exact h3 y e
    obtain ⟨h1, h2, h3⟩ := gen xs x
    rw [h'] at h1 h2 h3
    refine ⟨?_, fun y hy => ?_⟩
    · rcases h1 with e | e
      · rw [e]; simp
      · exact List.mem_cons_of_mem _ e
    · rcases List.mem_cons.mp hy with e | e
      · subst e; exact h2
      · exact h3 y e
def biV (f : BI) : Value := if f.isTy then .type f.nm else .builtin f.nm
def rBi (K : PySem.W.Frag) (f : BI) : List V → Hp → VK → Prop := fun vs H Q => ∃ F ds d, Ex F H ∧ RepOs K F H vs ds ∧ biF f ds = some d ∧ PRes K F H (freshP (.bi f)) d Q
/-! sum of a tuple -/
section
variable {prog : Program} {w : World} {A : Around} {E : Value → Shared → Prop} {s : Shared} {l : Addr} {its : List Value} {ns : List Int} {Q : Value → Shared → Prop}
theorem sum_rawT (hh : A.handled = none) (hl : IsTup s.heap l its.toArray) (hi : IntsAre its ns)
    (h : ∀ h' tk t', (∀ b o, s.heap.get? b = some o → h'.get? b = some o) → Q (.int ns.sum t') { s with heap := h', toks := tk }) : wpAny (model prog w) A (call (.builtin "sum") [.ref l]) Q E s := by
  obtain ⟨xs, e⟩ := hi.allInts.items
  have hn : numsOf (intItems xs).toList = ns := by rw [← e]; exact hi.numsOf
  rw [nums_intItems] at hn
  rw [e] at hl
  have hlt : l < s.heap.objs.size := hl.lt
  have hne : l ≠ s.heap.objs.size := Nat.ne_of_lt hlt
  refine call_sum_walkG (wpAny_pyIter_tuple hl ?_)
  refine ⟨_, [s.heap.objs.size, l], [s.heap.objs.size], _, _, _, numAt xs, rfl, Walks.tuple (A := A.in1) hh _ l (by first | exact hne | exact Ne.symm hne) (intItems xs), ?_, ?_, (fun _ _ => intItems_at), fun h' tk t' hk => ?_⟩
  · refine ⟨⟨_, Heap.get?_push_size _ rfl, rfl, rfl⟩, ?_⟩
    first | exact hl.push _ | skip
  · intro b hb
    have hsz : ∀ o : Obj, (s.heap.push o).objs.size = s.heap.objs.size + 1 := fun o => Heap.size_push _ _
    simp only [List.mem_cons, List.not_mem_nil, or_false] at hb
    show b < (s.heap.push _).objs.size
    rw [hsz]
    rcases hb with rfl | rfl
    · exact Nat.lt_succ_self _
    · exact Nat.lt_succ_of_lt hlt
  · have := h h' tk t' (fun b o e => hk b o (fun hm => by simp only [List.mem_cons, List.not_mem_nil, or_false] at hm; rw [hm] at e; exact absurd (Heap.lt_size e) (Nat.lt_irrefl _)) (Heap.get?_push_of_some _ e))
    have e2 : preSum (numAt xs) (intItems xs).size = ns.sum := by
      rw [preSum_eq, List.take_of_length_le (by simp [intItems]), hn]
    rw [e2]
    exact this
end
def rSumT (K : PySem.W.Frag) : List V → Hp → VK → Prop := fun vs H Q => ∃ (a : Addr) (ns : List Int), vs = [V.ref a] ∧ SqT K H a (ns.map V.int) ∧ Q (.int ns.sum) H
section
variable {X : Cx}
theorem cr_sumT (hc : X.calm = true) : CallR X (.builtin "sum") (rSumT X.K) := by
  intro pins s σ H vs us Q I r h
  obtain ⟨a, ns, rfl, hs, q⟩ := h
  obtain ⟨its, rv, hl, _⟩ := I.tuple hs
  rw [Vals.ref1 r]
  exact sum_rawT (I.ok.hd hc) hl rv.ints fun h' tk t' hk => ⟨.int _, H, I.kept hk, ⟨_, rfl⟩, q⟩
theorem call_bi (hc : X.calm = true) (hu : X.A.units + 65 < cLine) (f : BI) : CallR X (biV f) (rBi X.K f) := by
  intro pins s σ H vs us Q I r h
  obtain ⟨F, ds, d, ex, hr, hd, q⟩ := h
  unfold biF at hd
  split at hd
  · cases hd
    cases hr with | cons ha ht => cases ht; obtain ⟨p, ws, rfl, hp, r1⟩ := ha.tup ex; exact call_len_seq pins s σ H _ us Q I r ⟨p, ws, rfl, .inr hp, by rw [r1.length]; exact q.int⟩
  · cases hd
    cases hr with | cons ha ht => cases ht; obtain ⟨p, ws, rfl, hp, r1⟩ := ha.lst ex; exact call_len_seq pins s σ H _ us Q I r ⟨p, ws, rfl, .inl hp, by rw [r1.length]; exact q.int⟩
  · cases hd
    cases hr with
    | cons ha ht =>
      cases ht
      have ha' := ha
      obtain ⟨p, ws, rfl, hp, r1⟩ := ha.tup ex
      rcases ha' with h | ⟨_, _, _, _, h, _⟩
      · exact call_tupleN pins s σ H _ us Q I r ⟨p, ws, rfl, .inr ⟨hp, q.dat (fun _ xs e => by cases e) _ h⟩⟩
      · cases h
  · cases hd
    cases hr with | cons ha ht => cases ht; obtain ⟨p, ws, rfl, hp, r1⟩ := ha.lst ex; exact call_tupleN pins s σ H _ us Q I r ⟨p, ws, rfl, .inl ⟨hp, fun l o hl ho => q.tup _ _ _ _ hl ho rfl r1⟩⟩
  · cases hd
    cases hr with | cons ha ht => cases ht; obtain ⟨p, ws, rfl, hp, r1⟩ := ha.tup ex; exact call_list_of pins s σ H _ us Q I r ⟨p, ws, rfl, .inr hp, fun l hl => q.lst _ _ _ hl rfl r1⟩
  · cases hd
    cases hr with | cons ha ht => cases ht; obtain ⟨p, ws, rfl, hp, r1⟩ := ha.lst ex; exact call_list_of pins s σ H _ us Q I r ⟨p, ws, rfl, .inl hp, fun l hl => q.lst _ _ _ hl rfl r1⟩
  · simp only [Option.map_eq_some_iff] at hd
    obtain ⟨ns, e, rfl⟩ := hd
    cases hr with | cons ha ht => cases ht; obtain ⟨p, ws, rfl, hp, r1⟩ := ha.lst ex; rw [r1.ints e] at hp; exact cr_sum hc pins s σ H _ us Q I r ⟨p, ns, rfl, hp, q.int⟩
  · simp only [Option.map_eq_some_iff] at hd
    obtain ⟨ns, e, rfl⟩ := hd
    cases hr with | cons ha ht => cases ht; obtain ⟨p, ws, rfl, hp, r1⟩ := ha.tup ex; rw [r1.ints e] at hp; exact cr_sumT hc pins s σ H _ us Q I r ⟨p, ns, rfl, hp, q.int⟩
  · simp only [Option.map_eq_some_iff] at hd
    obtain ⟨ns, e, rfl⟩ := hd
    cases hr with | cons ha ht => cases ht; obtain ⟨p, ws, rfl, hp, r1⟩ := ha.lst ex; rw [r1.bls e] at hp; exact cr_all hc pins s σ H _ us Q I r ⟨p, ns, rfl, hp, q.bl⟩
  · simp only [Option.map_eq_some_iff] at hd
    obtain ⟨ns, e, rfl⟩ := hd
    cases hr with | cons ha ht => cases ht; obtain ⟨p, ws, rfl, hp, r1⟩ := ha.lst ex; rw [r1.bls e] at hp; exact cr_any hc pins s σ H _ us Q I r ⟨p, ns, rfl, hp, q.bl⟩
  · rename_i xs
    split at hd
    · rename_i ns e
      rw [Option.map_eq_some_iff] at hd
      obtain ⟨m, em, rfl⟩ := hd
      obtain ⟨m1, m2⟩ := maxL_ok em
      cases hr with
      | cons ha ht =>
        cases ht
        obtain ⟨p, ws, rfl, hp, r1⟩ := ha.lst ex
        rw [r1.ints e] at hp
        refine cr_max hc pins s σ H _ us Q I r ⟨p, ns, rfl, hp, by cases ns with | nil => simp at m1 | cons a b => simp, fun m' h1 h2 => ?_⟩
        have : m' = m := Int.le_antisymm (m2 _ h1) (h2 _ m1)
        subst this; exact q.int
    · cases hr with
      | cons ha ht =>
        cases ht
        obtain ⟨p, ws, rfl, hp, r1⟩ := ha.lst ex
        cases xs with
        | nil => cases hd
        | cons x xs =>
          have hd : (if alikeB (x :: xs) = true then some (xs.foldl (fun a y => if datLt a y then y else a) x) else none) = some d := hd
          by_cases al : alikeB (x :: xs) = true
          · rw [if_pos al] at hd
            cases hd
            exact call_maxA hc hu pins s σ H _ us Q I r ⟨F, p, ws, x, xs, rfl, hp, ex, r1, al, fun v hv => q.dat (fun e => by cases e) v hv⟩
          · rw [if_neg al] at hd; cases hd
  · rename_i xs
    split at hd
    · rename_i ns e
      rw [Option.map_eq_some_iff] at hd
      obtain ⟨m, em, rfl⟩ := hd
      obtain ⟨m1, m2⟩ := minL_ok em
      cases hr with
      | cons ha ht =>
        cases ht
        obtain ⟨p, ws, rfl, hp, r1⟩ := ha.lst ex
        rw [r1.ints e] at hp
        refine cr_min hc pins s σ H _ us Q I r ⟨p, ns, rfl, hp, by cases ns with | nil => simp at m1 | cons a b => simp, fun m' h1 h2 => ?_⟩
        have : m' = m := Int.le_antisymm (h2 _ m1) (m2 _ h1)
        subst this; exact q.int
    · cases hr with
      | cons ha ht =>
        cases ht
        obtain ⟨p, ws, rfl, hp, r1⟩ := ha.lst ex
        cases xs with
        | nil => cases hd
        | cons x xs =>
          have hd : (if alikeB (x :: xs) = true then some (xs.foldl (fun a y => if datLt y a then y else a) x) else none) = some d := hd
          by_cases al : alikeB (x :: xs) = true
          · rw [if_pos al] at hd
            cases hd
            exact call_minA hc hu pins s σ H _ us Q I r ⟨F, p, ws, x, xs, rfl, hp, ex, r1, al, fun v hv => q.dat (fun e => by cases e) v hv⟩
          · rw [if_neg al] at hd; cases hd
  · rename_i xs
    split at hd
    · rename_i c
      cases hd
      cases hr with | cons ha ht => cases ht; obtain ⟨p, ws, rfl, hp, r1⟩ := ha.lst ex; exact call_sortedA hu pins s σ H _ us Q I r ⟨F, p, ws, xs, rfl, hp, ex, r1, c, fun p us hn hr => q.lst _ _ _ hn rfl hr⟩
    · cases hd
  · cases hd
    cases hr with | cons ha ht => cases ht with | cons hb ht => cases ht; obtain rfl := ha.int; obtain rfl := hb.int; exact call_max2 hc pins s σ H _ us Q I r ⟨_, _, rfl, q.int⟩
  · cases hd
    cases hr with | cons ha ht => cases ht with | cons hb ht => cases ht; obtain rfl := ha.int; obtain rfl := hb.int; exact call_min2 hc pins s σ H _ us Q I r ⟨_, _, rfl, q.int⟩
  · cases hd
    cases hr with | cons ha ht => cases ht; obtain rfl := ha.int; exact call_abs pins s σ H _ us Q I r ⟨_, rfl, q.int⟩
  · cases hd
    cases hr with | cons ha ht => cases ht; obtain rfl := ha.int; exact call_int1 pins s σ H _ us Q I r (.inl ⟨_, rfl, q.int⟩)
  · cases hd
    cases hr with | cons ha ht => cases ht; obtain rfl := ha.bl; exact call_int1 pins s σ H _ us Q I r (.inr ⟨_, rfl, q.int⟩)
  · cases hd
end
end Px
set_option Elab.async false
set_option linter.all false
set_option maxRecDepth 100000
set_option maxHeartbeats 2000000
namespace Px
open PySem PySem.Spec PyProof.Rows L2

/-! ### the state: what stands still (F), what must not change (B), the slots -/
structure Fm where
  B : Hp
  F0 : Hp
/-- what stands in the heap for a thing of our own -/
def OwnC (K : PySem.W.Frag) (F : Hp) : Own → HO → Prop
  | .lst xs, u => ∃ vs, u = .lst vs ∧ RepAll K F vs xs
  | .ins c ns xs, u => ∃ C dx vs, u = .ins C dx (ns.zip vs) ∧ ClsN K c C ns ∧ ns.length = xs.length ∧ RepAll K F vs xs
theorem OwnC.mono {K : PySem.W.Frag} {F F' : Hp} (e : Ex F F') {w : Own} {u : HO} (h : OwnC K F w u) : OwnC K F' w u := by
  cases w with
  | lst xs => obtain ⟨vs, h1, h2⟩ := h; exact ⟨vs, h1, h2.mono e⟩
  | ins c ns xs => obtain ⟨C, dx, vs, h1, h2, h3, h4⟩ := h; exact ⟨C, dx, vs, h1, h2, h3, h4.mono e⟩
theorem OwnC.rep {K : PySem.W.Frag} {F : Hp} {p : Addr} {w : Own} {u : HO} (hp : F p = some u) (h : OwnC K F w u) : Rep K F (.ref p) w.frz := by
  cases w with
  | lst xs => obtain ⟨vs, h1, h2⟩ := h; subst h1; exact .lst (SqL.of hp) h2
  | ins c ns xs => obtain ⟨C, dx, vs, h1, h2, h3, h4⟩ := h; subst h1; exact .obj hp h2 h4
def SlotOk (K : PySem.W.Frag) (fm : Fm) (F H : Hp) (v : V) : Slot → Prop
  | .dat d => Rep K F v d
  | .mo w => ∃ p u, v = .ref p ∧ fm.B p = none ∧ F p = none ∧ H p = some u ∧ OwnC K F w u
structure OK (K : PySem.W.Frag) (fm : Fm) (F : Hp) (ρ : PEnv) (σ : L2.St) (H : Hp) : Prop where
  exB : Ex fm.B H
  exF : Ex F H
  base : ∀ a, fm.B a ≠ none → F a = fm.F0 a
  len : ρ.length = σ.length
  slot : ∀ i s, getS ρ i = some s → ∃ v, σ[i]? = some (some v) ∧ SlotOk K fm F H v s
  inj : ∀ i j xs ys, i ≠ j → getS ρ i = some (.mo xs) → getS ρ j = some (.mo ys) → σ[i]? ≠ σ[j]?
theorem getS_some {ρ : PEnv} {i : Nat} {s : Slot} (h : getS ρ i = some s) : i < ρ.length ∧ ρ[i]? = some (some s) := by
  unfold getS at h
  rw [List.getD_eq_getElem?_getD] at h
  cases e : ρ[i]? with
  | none => rw [e] at h; cases h
  | some o =>
    rw [e] at h
    have h' : o = some s := h
    subst h'
    exact ⟨(List.getElem?_eq_some_iff.mp e).1, rfl⟩
theorem getS_set {ρ : PEnv} {i j : Nat} {x : Option Slot} (h : i < ρ.length) : getS (ρ.set i x) j = if j = i then x else getS ρ j := by
  unfold getS
  rw [List.getD_eq_getElem?_getD, List.getD_eq_getElem?_getD]
  by_cases e : j = i
  · subst e; rw [List.getElem?_set_self h, if_pos rfl]; rfl
  · rw [List.getElem?_set_ne (Ne.symm e), if_neg e]
theorem getS_set_ne {ρ : PEnv} {i j : Nat} {x : Option Slot} (h : j ≠ i) : getS (ρ.set i x) j = getS ρ j := by
  unfold getS
  rw [List.getD_eq_getElem?_getD, List.getD_eq_getElem?_getD, List.getElem?_set_ne (Ne.symm h)]
theorem getS_set_none {ρ : PEnv} {i j : Nat} {s : Slot} (h : getS (ρ.set i none) j = some s) : j ≠ i ∧ getS ρ j = some s := by
  by_cases e : j = i
  · subst e
    obtain ⟨h1, h2⟩ := getS_some h
    rw [List.getElem?_set_self (by simpa using h1)] at h2
    cases h2
  · rw [getS_set_ne e] at h; exact ⟨e, h⟩
section
variable {K : PySem.W.Frag} {fm : Fm} {F F' H H' : Hp} {ρ ρ' : PEnv} {σ σ' : L2.St}
theorem SlotOk.mono {v : V} {s : Slot} (e : Ex F F') (eH : Ex F' H') (hb : ∀ p u, fm.B p = none → F p = none → H p = some u → F' p = none ∧ H' p = some u) (h : SlotOk K fm F H v s) : SlotOk K fm F' H' v s := by
  cases s with
  | dat d => exact Rep.mono e h
  | mo w =>
    obtain ⟨p, u, h1, h2, h3, h4, h5⟩ := h
    obtain ⟨q1, q2⟩ := hb p u h2 h3 h4
    exact ⟨p, u, h1, h2, q1, q2, h5.mono e⟩
/-- a new object that stands still from now on -/
theorem OK.frozen (o : OK K fm F ρ σ H) {q : Addr} {x : HO} (hq : H q = none) : OK K fm (upd F q x) ρ σ (upd H q x) ∧ Ex F (upd F q x) := by
  have hF : F q = none := o.exF.fresh hq
  have hB : fm.B q = none := o.exB.fresh hq
  have e1 : Ex F (upd F q x) := Ex.new hF
  refine ⟨⟨fun a u e => ?_, fun a u e => ?_, fun a h => ?_, o.len, fun i s e => ?_, o.inj⟩, e1⟩
  · rw [upd_ne (ne_of_none e hB)]; exact o.exB a u e
  · by_cases c : a = q
    · subst c; rw [upd_same] at e ⊢; exact e
    · rw [upd_ne c] at e ⊢; exact o.exF a u e
  · rw [upd_ne (fun z => h (by rw [z]; exact hB))]; exact o.base a h
  · obtain ⟨v, h1, h2⟩ := o.slot i s e
    refine ⟨v, h1, h2.mono (H := H) e1 (fun a u e => ?_) fun p vs b f h => ?_⟩
    · by_cases c : a = q
      · subst c; rw [upd_same] at e ⊢; exact e
      · rw [upd_ne c] at e ⊢; exact o.exF a u e
    · have c : p ≠ q := ne_of_none h hq
      rw [upd_ne c, upd_ne c]; exact ⟨f, h⟩
/-- a new object of our own -/
theorem OK.newH (o : OK K fm F ρ σ H) {q : Addr} {x : HO} (hq : H q = none) : OK K fm F ρ σ (upd H q x) := by
  have hB : fm.B q = none := o.exB.fresh hq
  have hF : F q = none := o.exF.fresh hq
  refine ⟨fun a u e => ?_, fun a u e => ?_, o.base, o.len, fun i s e => ?_, o.inj⟩
  · rw [upd_ne (ne_of_none e hB)]; exact o.exB a u e
  · rw [upd_ne (ne_of_none e hF)]; exact o.exF a u e
  · obtain ⟨v, h1, h2⟩ := o.slot i s e
    refine ⟨v, h1, h2.mono (H := H) (Ex.refl F) (fun a u e => ?_) fun p vs b f h => ?_⟩
    · rw [upd_ne (ne_of_none e hF)]; exact o.exF a u e
    · rw [upd_ne (ne_of_none h hq)]; exact ⟨f, h⟩
/-- an object that nothing else knows (B, F, the slots) is changed -/
theorem OK.chg (o : OK K fm F ρ σ H) {q : Addr} {x : HO} (hB : fm.B q = none) (hF : F q = none) (hs : ∀ i xs, getS ρ i = some (.mo xs) → σ[i]? ≠ some (some (.ref q))) : OK K fm F ρ σ (upd H q x) := by
  refine ⟨fun a u e => ?_, fun a u e => ?_, o.base, o.len, fun i s e => ?_, o.inj⟩
  · rw [upd_ne (ne_of_none e hB)]; exact o.exB a u e
  · rw [upd_ne (ne_of_none e hF)]; exact o.exF a u e
  · obtain ⟨v, h1, h2⟩ := o.slot i s e
    cases s with
    | dat d => exact ⟨v, h1, h2⟩
    | mo xs =>
      obtain ⟨p, vs, rfl, h3, h4, h5, h6⟩ := h2
      have hn : p ≠ q := fun z => hs i xs e (by rw [h1, z])
      exact ⟨_, h1, p, vs, rfl, h3, h4, by rw [upd_ne hn]; exact h5, h6⟩
/-- a slot is stored to: what stands still -/
theorem OK.setD (o : OK K fm F ρ σ H) {i : Nat} {v : V} {d : D} (h : Rep K F v d) : OK K fm F (ρ.set i (some (.dat d))) (σ.set i (some v)) H := by
  refine ⟨o.exB, o.exF, o.base, by simp [o.len], fun j s e => ?_, fun j k xs ys hjk e1 e2 => ?_⟩
  · by_cases hi : i < ρ.length
    · rw [getS_set hi] at e
      by_cases c : j = i
      · rw [if_pos c] at e; cases e; subst c
        exact ⟨v, by rw [List.getElem?_set_self (by rw [← o.len]; exact hi)], h⟩
      · rw [if_neg c] at e
        obtain ⟨w, h1, h2⟩ := o.slot j s e
        exact ⟨w, by rw [List.getElem?_set_ne (Ne.symm c)]; exact h1, h2⟩
    · have e3 : ρ.set i (some (.dat d)) = ρ := List.set_eq_of_length_le (by omega)
      have e4 : σ.set i (some v) = σ := List.set_eq_of_length_le (by rw [← o.len]; omega)
      rw [e3] at e; rw [e4]; exact o.slot j s e
  · by_cases hi : i < ρ.length
    · rw [getS_set hi] at e1 e2
      by_cases c1 : j = i
      · rw [if_pos c1] at e1; cases e1
      · by_cases c2 : k = i
        · rw [if_pos c2] at e2; cases e2
        · rw [if_neg c1] at e1; rw [if_neg c2] at e2
          rw [List.getElem?_set_ne (Ne.symm c1), List.getElem?_set_ne (Ne.symm c2)]
          exact o.inj j k xs ys hjk e1 e2
    · have e3 : ρ.set i (some (.dat d)) = ρ := List.set_eq_of_length_le (by omega)
      have e4 : σ.set i (some v) = σ := List.set_eq_of_length_le (by rw [← o.len]; omega)
      rw [e3] at e1 e2; rw [e4]; exact o.inj j k xs ys hjk e1 e2
/-- a slot is forgotten -/
theorem OK.unset (o : OK K fm F ρ σ H) (i : Nat) : OK K fm F (ρ.set i none) σ H :=
  ⟨o.exB, o.exF, o.base, by simp [o.len], fun j s e => o.slot j s (getS_set_none e).2, fun j k xs ys hjk e1 e2 => o.inj j k xs ys hjk (getS_set_none e1).2 (getS_set_none e2).2⟩
theorem OK.unset2 (o : OK K fm F ρ σ H) (i : Nat) : OK K fm F (ρ.set i none) (σ.set i none) H := by
  refine ⟨o.exB, o.exF, o.base, by simp [o.len], fun j s e => ?_, fun j k xs ys hjk e1 e2 => ?_⟩
  · obtain ⟨c, e⟩ := getS_set_none e
    rw [List.getElem?_set_ne (Ne.symm c)]; exact o.slot j s e
  · obtain ⟨c1, e1⟩ := getS_set_none e1
    obtain ⟨c2, e2⟩ := getS_set_none e2
    rw [List.getElem?_set_ne (Ne.symm c1), List.getElem?_set_ne (Ne.symm c2)]; exact o.inj j k xs ys hjk e1 e2
/-- a thing of our own at p that no slot knows -/
def Mine (K : PySem.W.Frag) (fm : Fm) (F : Hp) (ρ : PEnv) (σ : L2.St) (H : Hp) (v : V) (xs : Own) : Prop :=
  ∃ p u, v = .ref p ∧ fm.B p = none ∧ F p = none ∧ H p = some u ∧ OwnC K F xs u ∧ ∀ i ys, getS ρ i = some (.mo ys) → σ[i]? ≠ some (some (.ref p))
theorem OK.setO (o : OK K fm F ρ σ H) {i : Nat} {v : V} {xs : Own} (h : Mine K fm F ρ σ H v xs) : OK K fm F (ρ.set i (some (.mo xs))) (σ.set i (some v)) H := by
  obtain ⟨p, vs, rfl, h1, h2, h3, h4, h5⟩ := h
  by_cases hi : i < ρ.length
  · refine ⟨o.exB, o.exF, o.base, by simp [o.len], fun j s e => ?_, fun j k ys zs hjk e1 e2 => ?_⟩
    · rw [getS_set hi] at e
      by_cases c : j = i
      · rw [if_pos c] at e; cases e; subst c
        exact ⟨_, by rw [List.getElem?_set_self (by rw [← o.len]; exact hi)], p, vs, rfl, h1, h2, h3, h4⟩
      · rw [if_neg c] at e
        obtain ⟨w, q1, q2⟩ := o.slot j s e
        exact ⟨w, by rw [List.getElem?_set_ne (Ne.symm c)]; exact q1, q2⟩
    · rw [getS_set hi] at e1 e2
      by_cases c1 : j = i
      · have c2 : k ≠ i := fun z => hjk (c1.trans z.symm)
        rw [if_neg c2] at e2
        rw [c1, List.getElem?_set_self (by rw [← o.len]; exact hi), List.getElem?_set_ne (Ne.symm c2)]
        exact Ne.symm (h5 k zs e2)
      · rw [if_neg c1] at e1
        by_cases c2 : k = i
        · rw [c2, List.getElem?_set_self (by rw [← o.len]; exact hi), List.getElem?_set_ne (Ne.symm c1)]
          exact h5 j ys e1
        · rw [if_neg c2] at e2
          rw [List.getElem?_set_ne (Ne.symm c1), List.getElem?_set_ne (Ne.symm c2)]
          exact o.inj j k ys zs hjk e1 e2
  · have e3 : ρ.set i (some (.mo xs)) = ρ := List.set_eq_of_length_le (by omega)
    have e4 : σ.set i (some (V.ref p)) = σ := List.set_eq_of_length_le (by rw [← o.len]; omega)
    rw [e3, e4]; exact o
/-- a thing of our own stands still from now on -/
theorem OK.freeze (o : OK K fm F ρ σ H) {p : Addr} {u : HO} {xs : Own} (h1 : fm.B p = none) (h2 : F p = none) (h3 : H p = some u) (h4 : OwnC K F xs u) (h5 : ∀ i ys, getS ρ i = some (.mo ys) → σ[i]? ≠ some (some (.ref p))) :
    OK K fm (L2.upd F p u) ρ σ H ∧ Ex F (L2.upd F p u) ∧ Rep K (L2.upd F p u) (.ref p) xs.frz := by
  have e1 : Ex F (L2.upd F p u) := Ex.new h2
  have e2 : Ex (L2.upd F p u) H := fun a u e => by
    by_cases c : a = p
    · subst c; rw [upd_same] at e; cases e; exact h3
    · rw [upd_ne c] at e; exact o.exF a u e
  refine ⟨⟨o.exB, e2, fun a h => ?_, o.len, fun i s e => ?_, o.inj⟩, e1, (h4.mono e1).rep upd_same⟩
  · rw [upd_ne (fun z => h (by rw [z]; exact h1))]; exact o.base a h
  · obtain ⟨v, q1, q2⟩ := o.slot i s e
    cases s with
    | dat d => exact ⟨v, q1, Rep.mono e1 q2⟩
    | mo ys =>
      obtain ⟨a, ws, rfl, b1, b2, b3, b4⟩ := q2
      have hn : a ≠ p := fun z => h5 i ys e (by rw [q1, z])
      exact ⟨_, q1, a, ws, rfl, b1, by rw [upd_ne hn]; exact b2, b3, b4.mono e1⟩
/-- the slot i, a list of our own, taken out -/
theorem OK.takeO (o : OK K fm F ρ σ H) {i : Nat} {xs : Own} (h : getS ρ i = some (.mo xs)) : ∃ v, σ[i]? = some (some v) ∧ Mine K fm F (ρ.set i none) σ H v xs := by
  obtain ⟨v, h1, p, vs, rfl, q1, q2, q3, q4⟩ := o.slot i _ h
  refine ⟨_, h1, p, vs, rfl, q1, q2, q3, q4, fun j ys e => ?_⟩
  obtain ⟨c, e⟩ := getS_set_none e
  rw [← h1]
  exact o.inj j i ys xs c e h
/-- a temporary object of our own is kept by what runs -/
def Fm.keep (fm : Fm) (q : Addr) (x : HO) : Fm := ⟨L2.upd fm.B q x, fun a => if a = q then none else fm.F0 a⟩
theorem OK.keep (o : OK K fm F ρ σ H) {q : Addr} {x : HO} (hF : F q = none) (hH : H q = some x) (hs : ∀ i xs, getS ρ i = some (.mo xs) → σ[i]? ≠ some (some (.ref q))) : OK K (fm.keep q x) F ρ σ H := by
  refine ⟨fun a u e => ?_, o.exF, fun a h => ?_, o.len, fun i s e => ?_, o.inj⟩
  · by_cases c : a = q
    · subst c
      have e' : L2.upd fm.B a x a = some u := e
      rw [upd_same] at e'; cases e'; exact hH
    · have e' : L2.upd fm.B q x a = some u := e
      rw [upd_ne c] at e'; exact o.exB a u e'
  · show F a = if a = q then none else fm.F0 a
    by_cases c : a = q
    · rw [if_pos c, c]; exact hF
    · rw [if_neg c]
      have h' : L2.upd fm.B q x a ≠ none := h
      rw [upd_ne c] at h'; exact o.base a h'
  · obtain ⟨v, h1, h2⟩ := o.slot i s e
    cases s with
    | dat d => exact ⟨v, h1, h2⟩
    | mo xs =>
      obtain ⟨p, vs, rfl, b1, b2, b3, b4⟩ := h2
      have hn : p ≠ q := fun z => hs i xs e (by rw [h1, z])
      exact ⟨_, h1, p, vs, rfl, (show L2.upd fm.B q x p = none by rw [upd_ne hn]; exact b1), b2, b3, b4⟩
theorem OK.unkeep {q : Addr} {x : HO} (hB : fm.B q = none) (o : OK K (fm.keep q x) F ρ σ H) : OK K fm F ρ σ H ∧ F q = none ∧ H q = some x ∧ ∀ i xs, getS ρ i = some (.mo xs) → σ[i]? ≠ some (some (.ref q)) := by
  have hF : F q = none := by
    have := o.base q (by show L2.upd fm.B q x q ≠ none; rw [upd_same]; simp)
    rw [this]; show (if q = q then none else _) = none; rw [if_pos rfl]
  refine ⟨⟨fun a u e => ?_, o.exF, fun a h => ?_, o.len, fun i s e => ?_, o.inj⟩, hF, ?_, fun i xs e z => ?_⟩
  · exact o.exB a u (by show L2.upd fm.B q x a = some u; rw [upd_ne (ne_of_none e hB)]; exact e)
  · have hn : a ≠ q := fun z => h (by rw [z]; exact hB)
    have := o.base a (by show L2.upd fm.B q x a ≠ none; rw [upd_ne hn]; exact h)
    rw [this]; show (if a = q then none else _) = _; rw [if_neg hn]
  · obtain ⟨v, h1, h2⟩ := o.slot i s e
    cases s with
    | dat d => exact ⟨v, h1, h2⟩
    | mo xs =>
      obtain ⟨p, vs, rfl, b1, b2, b3, b4⟩ := h2
      have hn : p ≠ q := fun z => by
        have b1' : L2.upd fm.B q x p = none := b1
        rw [z, upd_same] at b1'; cases b1'
      have b1' : L2.upd fm.B q x p = none := b1
      rw [upd_ne hn] at b1'
      exact ⟨_, h1, p, vs, rfl, b1', b2, b3, b4⟩
  · exact o.exB q x (by show L2.upd fm.B q x q = some x; rw [upd_same])
  · obtain ⟨v, h1, p, vs, rfl, b1, b2, b3, b4⟩ := o.slot i _ e
    rw [h1] at z; cases z
    have b1' : L2.upd fm.B q x q = none := b1
    rw [upd_same] at b1'; cases b1'
end

/-! ### readings by the evaluator -/
def tEv (K : PySem.W.Frag) (g : PEnv → Out (D × PEnv)) : TE := fun σ H Q => ∃ fm F ρ d ρ', OK K fm F ρ σ H ∧ g ρ = .ok (d, ρ') ∧ ∀ v F' H', OK K fm F' ρ' σ H' → Ex F F' → Rep K F' v d → Q v H'
def OpdOk (K : PySem.W.Frag) (F : Hp) (σ : L2.St) (v : V) : Opd → Prop
  | .val d => Rep K F v d
  | .slot i => σ[i]? = some (some v)
def tAr (K : PySem.W.Frag) (g : PEnv → Out (Opd × PEnv)) : TE := fun σ H Q => ∃ fm F ρ o ρ', OK K fm F ρ σ H ∧ g ρ = .ok (o, ρ') ∧
  ∀ v F' H', OK K fm F' ρ' σ H' → Ex F F' → OpdOk K F' σ v o → Q v H'
inductive OpdsOk (K : PySem.W.Frag) (F : Hp) (σ : L2.St) : List V → List Opd → Prop
  | nil : OpdsOk K F σ [] []
  | cons {v : V} {vs : List V} {o : Opd} {os : List Opd} : OpdOk K F σ v o → OpdsOk K F σ vs os → OpdsOk K F σ (v :: vs) (o :: os)
def tArs (K : PySem.W.Frag) (g : PEnv → Out (List Opd × PEnv)) : TA := fun σ H Q => ∃ fm F ρ os ρ', OK K fm F ρ σ H ∧ g ρ = .ok (os, ρ') ∧
  ∀ vs F' H', OK K fm F' ρ' σ H' → Ex F F' → OpdsOk K F' σ vs os → Q vs H'
def tEvs (K : PySem.W.Frag) (g : PEnv → Out (List D × PEnv)) : TA := fun σ H Q => ∃ fm F ρ ds ρ', OK K fm F ρ σ H ∧ g ρ = .ok (ds, ρ') ∧ ∀ vs F' H', OK K fm F' ρ' σ H' → Ex F F' → RepAll K F' vs ds → Q vs H'
def tEvT (K : PySem.W.Frag) (g : PEnv → Out (Bool × PEnv)) : TT := fun σ H Q => ∃ fm F ρ b ρ', OK K fm F ρ σ H ∧ g ρ = .ok (b, ρ') ∧ ∀ F' H', OK K fm F' ρ' σ H' → Ex F F' → Q b H'
section
variable {K : PySem.W.Frag} {F F' H : Hp} {σ : L2.St}
theorem OpdOk.mono {v : V} {o : Opd} (e : Ex F F') (h : OpdOk K F σ v o) : OpdOk K F' σ v o := by
  cases o with
  | val d => exact Rep.mono e h
  | slot i => exact h
theorem OpdsOk.mono (e : Ex F F') : ∀ {vs : List V} {os : List Opd}, OpdsOk K F σ vs os → OpdsOk K F' σ vs os
  | _, _, .nil => .nil
  | _, _, .cons h r => .cons (h.mono e) (r.mono e)
theorem OpdOk.rd {fm : Fm} {ρ : PEnv} (k : OK K fm F ρ σ H) {v : V} {o : Opd} {d : D} (h : OpdOk K F σ v o) (e : rdO ρ o = some d) : RepO K F H v d := by
  cases o with
  | val d' => cases e; exact .inl h
  | slot i =>
    unfold rdO at e
    simp only at e
    cases c : getS ρ i with
    | none => rw [c] at e; cases e
    | some s =>
      rw [c] at e
      obtain ⟨w, h1, h2⟩ := k.slot i s c
      have h' : σ[i]? = some (some v) := h
      rw [h'] at h1; cases h1
      match s, e, h2 with
      | .dat d, e, h2 => cases e; exact .inl h2
      | .mo (.lst xs), e, h2 =>
        cases e
        obtain ⟨p, _, rfl, b1, b2, b3, vs, rfl, b4⟩ := h2
        exact .inr ⟨p, vs, xs, rfl, rfl, b3, b4⟩
      | .mo (.ins c ns xs), e, h2 => cases e
theorem OpdsOk.rd {fm : Fm} {ρ : PEnv} (k : OK K fm F ρ σ H) : ∀ {vs : List V} {os : List Opd} {ds : List D}, OpdsOk K F σ vs os → rdAll ρ os = some ds → RepOs K F H vs ds
  | _, _, _, .nil, e => by cases e; exact .nil
  | _, _, ds, .cons (o := o) (os := os) h r, e => by
    unfold rdAll at e
    cases c1 : rdO ρ o with
    | none => rw [c1] at e; simp at e
    | some d =>
      cases c2 : rdAll ρ os with
      | none => rw [c1, c2] at e; simp at e
      | some es =>
        rw [c1, c2] at e; cases e
        exact .cons (h.rd k c1) (r.rd k c2)
end
section
variable {X : Cx} {e : Expr} {es : List Expr} {s : Stmt} {ss : List Stmt}
theorem _root_.L2.PE.imp {t t' : TE} (h : PE X e t) (q : ∀ σ H Q, t' σ H Q → t σ H Q) : PE X e t' := ⟨fun pins s σ H Q I w => h.run pins s σ H Q I (q σ H Q w)⟩
theorem _root_.L2.PT.imp {t t' : TT} (h : PT X e t) (q : ∀ σ H Q, t' σ H Q → t σ H Q) : PT X e t' := ⟨fun pins s σ H Q I w => h.run pins s σ H Q I (q σ H Q w)⟩
theorem _root_.L2.PA.imp {t t' : TA} (h : PA X es t) (q : ∀ σ H Q, t' σ H Q → t σ H Q) : PA X es t' := ⟨fun pos pins s σ H Q I w => h.run pos pins s σ H Q I (q σ H Q w)⟩
theorem _root_.L2.PS.imp {t t' : TS} (h : PS X s t) (q : ∀ D σ H, t' D σ H → t D σ H) : PS X s t' := ⟨fun pins s σ H D I w => h.run pins s σ H D I (q D σ H w)⟩
theorem _root_.L2.PSs.imp {t t' : TS} (h : PSs X ss t) (q : ∀ D σ H, t' D σ H → t D σ H) : PSs X ss t' := ⟨fun pins s σ H D I w => h.run pins s σ H D I (q D σ H w)⟩
end
end Px
set_option Elab.async false
set_option linter.all false
set_option maxRecDepth 100000
set_option maxHeartbeats 2000000
namespace Px
open PySem PySem.Spec PyProof.Rows L2

/-! ### a def's promise -/
def ArgOk (K : PySem.W.Frag) (F H : Hp) (v : V) : Slot → Prop
  | .dat d => Rep K F v d
  | .mo w => ∃ p u, v = .ref p ∧ F p = none ∧ H p = some u ∧ OwnC K F w u
inductive ArgsOk (K : PySem.W.Frag) (F H : Hp) : List V → List Slot → Prop
  | nil : ArgsOk K F H [] []
  | cons {v : V} {vs : List V} {a : Slot} {as : List Slot} : ArgOk K F H v a → ArgsOk K F H vs as → ArgsOk K F H (v :: vs) (a :: as)
def ownAt (as : List Slot) (vs : List V) (p : Addr) : Prop := ∃ (j : Nat) (xs : Own), as[j]? = some (Slot.mo xs) ∧ vs[j]? = some (V.ref p)
structure CallPost (K : PySem.W.Frag) (F H : Hp) (vs : List V) (as : List Slot) (r : Slot) (outs : PEnv) (v : V) (F' H' : Hp) : Prop where
  exF : Ex F F'
  exH : Ex F' H'
  kept : ∀ a o, H a = some o → ¬ ownAt as vs a → H' a = some o ∧ F' a = F a
  outs : ∀ (j : Nat) (xs ys : Own), as[j]? = some (Slot.mo xs) → getS outs j = some (.mo ys) → ∃ p u, vs[j]? = some (V.ref p) ∧ F' p = none ∧ H' p = some u ∧ OwnC K F' ys u
  res : match r with
    | .dat d => Rep K F' v d
    | .mo ys => ∃ p u, v = .ref p ∧ H p = none ∧ F' p = none ∧ H' p = some u ∧ OwnC K F' ys u
def spOf (K : PySem.W.Frag) (g : Gfun) : Sp := fun vs H Q _ => ∃ F as r outs, Ex F H ∧ ArgsOk K F H vs as ∧ (∀ (i j : Nat) (xs ys : Own), i ≠ j → as[i]? = some (Slot.mo xs) → as[j]? = some (Slot.mo ys) → vs[i]? ≠ vs[j]?) ∧
  g as = .ok (r, outs) ∧ ∀ v F' H', CallPost K F H vs as r outs v F' H' → Q v H'

def bnames : List Str := ["len", "tuple", "list", "sum", "all", "any", "max", "min", "abs", "int", "range", "isinstance", "bool", "str", "sorted", "reversed", "dict"]
/-- what isinstance asks of a class -/
structure IsiC (K : PySem.W.Frag) (C : Addr) : Prop where
  cl : Cls K C
  ha : PySem.W.findIn K (.ref C) "__class__" = some (some (.builtin "object.__class__"))
  hn : PySem.W.specialIn K (.builtin "object.__class__") "__get__" = some (some (.builtin "getset_descriptor.__get__"))
  htk : PySem.W.takesIn K (.builtin "object.__class__") = some true
  hm : PySem.W.mroIn K C (.type "object") = some true
  kit : PySem.W.kitOne K (.ref C) (.ref C) = some true
structure WX (X : Cx) (G : Sig) (k : Nat) : Prop where
  calm : X.calm = true
  nd : X.N.Nodup
  room : Room k X.A
  sig : ∀ f g, G f = some g → ∃ a fd ps, X.mg f = some (.ref a) ∧ PySem.W.keepIn X.K (.ref a) = true ∧ Binds X.K fd ps [] ∧ FnOk X.prog X.w X.K X.mg X.base CX0 k a fd ps (spOf X.K g)
  blt : ∀ x ∈ bnames, X.mg x = none
  mth : ∀ c m g, G.mth c m = some g → ∃ C a fd ps, PySem.W.nsIn X.K mainGlobals c = some (some (.ref C)) ∧ Cls X.K C ∧ Meth X.K C m a ∧ Binds X.K fd ps [] ∧ FnOk X.prog X.w X.K X.mg X.base CX0 k a fd ps (spOf X.K g)
  ini : ∀ c g, G.ini c = some g → ∃ C a fd ps j, k = j + 1 ∧ X.mg c = some (.ref C) ∧ PySem.W.nsIn X.K mainGlobals c = some (some (.ref C)) ∧ Mk X.K C a ∧ Binds X.K fd ps [] ∧ FnOk X.prog X.w X.K X.mg X.base CX0 j a fd ps (spOf X.K g) ∧ IsiC X.K C
  fld : ∀ c f, G.fld c f = true → ∃ C, PySem.W.nsIn X.K mainGlobals c = some (some (.ref C)) ∧ Cls X.K C ∧ NoAttr X.K C f
theorem WX.blk {X : Cx} {G : Sig} {k : Nat} (w : WX X G k) (s : Shared) (H : Hp) (scope : Scope) (C : Addr) (cl : List (Str × Addr)) (fp : List Addr) : WX (X.blk s H scope (compEnvC scope cl C X.env) fp) G k :=
  ⟨w.calm, w.nd, w.room, w.sig, w.blt, w.mth, w.ini, w.fld⟩

/-! ### the IR beside the text -/
def visB (sc : Scope) (x : Str) : Bool := match sc.names.lookup x with
  | some .local => true | some .cell => true | some .free => true | _ => false
def locB (sc : Scope) (x : Str) : Bool := match sc.names.lookup x with
  | some .local => true | some .cell => true | _ => false
def globB (sc : Scope) (x : Str) : Bool := decide (sc.names.lookup x = some .globalImplicit) && !(x == ("__debug__" : Str))
def varB (N : List Str) (sc : Scope) (i : Nat) (x : Str) : Bool := decide (N[i]? = some x) && visB sc x && !(x == ("__debug__" : Str)) && !(x == ("__classdict__" : Str))
def notStar : Expr → Bool
  | .Starred _ _ => false
  | _ => true
def notSet : Expr → Bool
  | .Set _ _ _ => false
  | _ => true
/-- not super() -/
def notSup : Expr → Bool
  | .Call (.Name _ _) [] [] _ => false
  | _ => true
theorem notSup_base {o : Expr} {f : Str} {env : Env} {whole : Sem Value} (h : notSup o = true) : attributeBase o f env whole = whole := by
  unfold attributeBase
  split
  · simp [notSup] at h
  · rfl
def notSlice : Expr → Bool
  | .Slice _ _ _ _ => false
  | _ => true
def conB : D → Const → Bool
  | .non, .none => true
  | .bl b, .bool c => b == c
  | .int i, .int j => decide (i = j)
  | .str x, .str y => decide (x = y)
  | _, _ => false
def ckT1 (N : List Str) (sc : Scope) : Nat → Expr → Bool
  | i, .Name x _ => decide (N[i]? = some x) && locB sc x
  | _, _ => false
def ckTs (N : List Str) (sc : Scope) : List Nat → List Expr → Bool
  | [], [] => true
  | i :: is, e :: es => ckT1 N sc i e && notStar e && ckTs N sc is es
  | _, _ => false
def ckTg (N : List Str) (sc : Scope) : Bool × List Nat → Expr → Bool
  | (false, [i]), e => ckT1 N sc i e
  | (true, is), .Tuple es _ _ => ckTs N sc is es
  | _, _ => false
def ownOf (N : List Str) (vs : List Nat) : List (Str × Nat) := vs.map fun i => (N.getD i "", i)
def notInO : CmpOp → Bool
  | .In => false
  | .NotIn => false
  | _ => true
def boolShape : Expr → Bool
  | .BoolOp _ _ _ => true
  | .UnaryOp .Not _ _ => true
  | .IfExp _ _ _ _ => true
  | .Compare _ _ _ _ => true
  | _ => false
mutual
def ckE : Nat → List Str → Scope → E → Expr → Bool
  | 0, _, _, _, _ => false
  | n + 1, N, sc, .var i, .Name x _ => varB N sc i x
  | n + 1, N, sc, .con d, .Constant c _ _ => conB d c
  | n + 1, N, sc, .prim p as, e => ckP n N sc p as e
  | n + 1, N, sc, .dsp true es, .Tuple xs _ _ => ckEs n N sc es xs
  | n + 1, N, sc, .dsp false es, .List xs _ => ckEs n N sc es xs
  | n + 1, N, sc, .bop true es, .BoolOp .And xs _ => ckEs n N sc es xs
  | n + 1, N, sc, .bop false es, .BoolOp .Or xs _ => ckEs n N sc es xs
  | n + 1, N, sc, .not a, .UnaryOp .Not x _ => ckE n N sc a x
  | n + 1, N, sc, .ite c a b, .IfExp x y z _ => ckT n N sc c x && ckE n N sc a y && ckE n N sc b z
  | n + 1, N, sc, .call f as, .Call (.Name x _) es [] _ => decide (x = f) && globB sc x && ckAs n N sc as es
  | n + 1, N, sc, .comp vs tg ik ies conds elt, .ListComp eltx [⟨tgx, iterx, ifsx, 0⟩] scope _ =>
    blkC N sc scope (ownOf N vs) && ckTg N scope tg tgx && (tg.2.all fun i => vs.contains i) && ckI n N sc ik ies iterx && decide (conds.length ≤ 1) && ckC n N (relS scope sc) conds ifsx && ckE n N (relS scope sc) elt eltx
  | n + 1, N, sc, .comp2 vs tg ik ies conds vs1 tg1 ik1 ies1 conds1 elt, .ListComp eltx [⟨tgx, iterx, ifsx, 0⟩, ⟨tgx1, iterx1, ifsx1, 0⟩] scope _ =>
    blkC N sc scope (ownOf N vs) && ckTg N scope tg tgx && (tg.2.all fun i => vs.contains i) && ckI n N sc ik ies iterx && decide (conds.length ≤ 1) && ckC n N (relS scope sc) conds ifsx &&
    ckTg N scope tg1 tgx1 && (tg1.2.all fun i => vs1.contains i) && (vs1.all fun i => vs.contains i) && ckI n N (relS scope sc) ik1 ies1 iterx1 && decide (conds1.length ≤ 1) && ckC n N (relS scope sc) conds1 ifsx1 && ckE n N (relS scope sc) elt eltx
  | n + 1, N, sc, .chn o p a b c, .Compare x [o', p'] [y, z] _ => decide (o = o') && decide (p = p') && notInO o && notInO p && ckE n N sc a x && ckE n N sc b y && ckE n N sc c z
  | n + 1, N, sc, .make c es, .Call (.Name x _) xs [] _ => decide (x = c) && globB sc x && ckEs n N sc es xs
  | n + 1, N, sc, .meth o m es, .Call (.Attribute ox at' apos) xs [] cpos => decide (at' = m) && notSup ox && (apos.endLine == cpos.line) && decide (xs.length < 29) && ckE n N sc o ox && ckEs n N sc es xs
  | n + 1, N, sc, .isc a c, .Call (.Name x _) [y, .Name t _] [] _ => decide (x = "isinstance") && globB sc x && globB sc t && decide (t = c) && notStar y && ckE n N sc a y
  | n + 1, N, sc, .isi a ty, .Call (.Name x _) [y, .Name t _] [] _ => decide (x = "isinstance") && globB sc x && globB sc t && decide (t = Str.ofString ty.nm) && notStar y && ckA n N sc a y
  | _, _, _, _, _ => false
def ckP : Nat → List Str → Scope → P → List Ar → Expr → Bool
  | 0, _, _, _, _, _ => false
  | n + 1, N, sc, .bin op, [a, b], .BinOp x op' y _ => decide (op = op') && ckA n N sc a x && ckA n N sc b y
  | n + 1, N, sc, .neg, [a], .UnaryOp .USub x _ => ckA n N sc a x
  | n + 1, N, sc, .cmp op, [a, b], .Compare x [op'] [y] _ => decide (op = op') && notSet y && ckA n N sc a x && ckA n N sc b y
  | n + 1, N, sc, .ix, [a, b], .Subscript x y _ => notSlice y && ckA n N sc a x && ckA n N sc b y
  | n + 1, N, sc, .sl false false, [a], .Subscript x (.Slice none none none _) _ => ckA n N sc a x
  | n + 1, N, sc, .sl true false, [a, b], .Subscript x (.Slice (some l) none none _) _ => ckA n N sc a x && ckA n N sc b l
  | n + 1, N, sc, .sl false true, [a, b], .Subscript x (.Slice none (some u) none _) _ => ckA n N sc a x && ckA n N sc b u
  | n + 1, N, sc, .sl true true, [a, .ex b, c], .Subscript x (.Slice (some l) (some u) none _) _ => ckA n N sc a x && ckA n N sc (.ex b) l && ckA n N sc c u
  | n + 1, N, sc, .mth m, [.ex a, b], .Call (.Attribute x at' apos) [y] [] cpos => decide (at' = Str.ofString m.nm) && notSup x && ckE n N sc a x && notStar y && ckA n N sc b y && (apos.endLine == cpos.line)
  | n + 1, N, sc, .fld f, [a], .Attribute x f' _ => decide (f' = f) && notSup x && ckA n N sc a x
  | n + 1, N, sc, .srev, [a], .Subscript x (.Slice none none (some (.UnaryOp .USub (.Constant (.int 1) _ _) _)) _) _ => ckA n N sc a x
  | n + 1, N, sc, .bid f, [a, .ex b], .Call (.Name x _) [y] [⟨some kn, z, _⟩] _ => decide (f = .min ∨ f = .max) && decide (x = Str.ofString f.nm) && globB sc x && decide (kn = Str.ofString "default") && notStar y && ckA n N sc a y && ckA n N sc (.ex b) z
  | n + 1, N, sc, .trev, [a], .Call (.Name x _) [.Call (.Name y _) [z] [] _] [] _ => decide (x = "tuple") && globB sc x && decide (y = "reversed") && globB sc y && notStar z && ckA n N sc a z
  | n + 1, N, sc, .bi f, as, .Call (.Name x _) (e :: es) [] _ => decide (x = Str.ofString f.nm) && globB sc x && ckAs n N sc as (e :: es)
  | _, _, _, _, _, _ => false
def ckT : Nat → List Str → Scope → T → Expr → Bool
  | 0, _, _, _, _ => false
  | n + 1, N, sc, .bop true ts, .BoolOp .And xs _ => ckC n N sc ts xs
  | n + 1, N, sc, .bop false ts, .BoolOp .Or xs _ => ckC n N sc ts xs
  | n + 1, N, sc, .not a, .UnaryOp .Not x _ => ckT n N sc a x
  | n + 1, N, sc, .val (.ex (.chn o p a b c)), .Compare x [o', p'] [y, z] _ => decide (o = o') && decide (p = p') && notInO o && notInO p && ckE n N sc a x && ckE n N sc b y && ckE n N sc c z
  | n + 1, N, sc, .val (.ex (.prim (.cmp op) [a, b])), .Compare x [op'] [y] _ => decide (op = op') && notSet y && ckA n N sc a x && ckA n N sc b y
  | n + 1, N, sc, .val a, e => !(boolShape e) && ckA n N sc a e
  | _, _, _, _, _ => false
def ckA : Nat → List Str → Scope → Ar → Expr → Bool
  | 0, _, _, _, _ => false
  | n + 1, N, sc, .slot i, .Name x _ => varB N sc i x
  | n + 1, N, sc, .ex e, x => ckE n N sc e x
  | _, _, _, _, _ => false
def ckAs : Nat → List Str → Scope → List Ar → List Expr → Bool
  | 0, _, _, _, _ => false
  | n + 1, N, sc, [], [] => true
  | n + 1, N, sc, a :: as, e :: es => ckA n N sc a e && notStar e && ckAs n N sc as es
  | _, _, _, _, _ => false
def ckEs : Nat → List Str → Scope → List E → List Expr → Bool
  | 0, _, _, _, _ => false
  | n + 1, N, sc, [], [] => true
  | n + 1, N, sc, a :: as, e :: es => ckE n N sc a e && notStar e && ckEs n N sc as es
  | _, _, _, _, _ => false
def ckC : Nat → List Str → Scope → List T → List Expr → Bool
  | 0, _, _, _, _ => false
  | n + 1, N, sc, [], [] => true
  | n + 1, N, sc, t :: ts, e :: es => ckT n N sc t e && ckC n N sc ts es
  | _, _, _, _, _ => false
/-- what is walked -/
def ckI : Nat → List Str → Scope → IK → List E → Expr → Bool
  | 0, _, _, _, _, _ => false
  | n + 1, N, sc, .rng, es, .Call (.Name x _) xs [] _ => decide (x = "range") && globB sc x && decide (xs.length = 1 ∨ xs.length = 2) && ckEs n N sc es xs
  | n + 1, N, sc, .seq, [a], e => notSet e && ckE n N sc a e
  | n + 1, N, sc, .brw i, [], .Name x _ => varB N sc i x
  | n + 1, N, sc, .rev, [a], .Call (.Name x _) [e] [] _ => decide (x = "reversed") && globB sc x && notStar e && ckE n N sc a e
  | n + 1, N, sc, .dk, es, .Call (.Name x _) xs [] _ => decide (x = "dict") && globB sc x && decide (xs.length = 1) && ckEs n N sc es xs
  | _, _, _, _, _, _ => false
end

theorem varB_ok {X : Cx} {i : Nat} {x : Str} {pos : Pos} (h : varB X.N X.env.scope i x = true) : PE X (.Name x pos) (tVar i) := by
  unfold varB at h
  simp only [Bool.and_eq_true, decide_eq_true_eq, Bool.not_eq_true'] at h
  obtain ⟨⟨⟨h1, h2⟩, h3⟩, h4⟩ := h
  refine pe_var h1 ?_ h3 h4
  unfold visB at h2
  unfold Vis
  split at h2
  · exact .inl (by assumption)
  · exact .inr (.inl (by assumption))
  · exact .inr (.inr (by assumption))
  · cases h2
theorem globB_ok {X : Cx} {x : Str} (h : globB X.env.scope x = true) : Gl X x ∧ (x == ("__debug__" : Str)) = false := by
  unfold globB at h
  simp only [Bool.and_eq_true, decide_eq_true_eq, Bool.not_eq_true'] at h
  exact h
theorem star_cons {e : Expr} {es : List Expr} {env : Env} (h : notStar e = true) : starEach (e :: es) env = (false, eval e env) :: starEach es env := by
  cases e <;> first | rfl | (simp [notStar] at h)
theorem notSet_in {op : CmpOp} {e : Expr} (h : notSet e = true) : behindInMarks op e = false := by
  cases e <;> first | rfl | (simp [notSet] at h)
theorem notSet_fold {e : Expr} {env : Env} (h : notSet e = true) : ∀ x, foldedSetIterable e env x = pure x := by
  intro x
  cases e <;> first | rfl | (simp [notSet] at h)
theorem notSlice_ix {e : Expr} (h : notSlice e = true) : PlainIx e := by
  intro o i
  cases e <;> first | rfl | (simp [notSlice] at h)
section
variable {X : Cx} {G : Sig} {k : Nat}
theorem conB_ok {d : D} {c : Const} {j : Nat} {pos : Pos} (h : conB d c = true) : PE X (.Constant c j pos) (tEv X.K (fun ρ => .ok (d, ρ))) := by
  unfold conB at h
  split at h
  · exact pe_non.imp fun σ H Q ⟨fm, F, ρ, d, ρ', o, e, q⟩ => by cases e; exact q _ F H o (Ex.refl F) .non
  · have h' := eq_of_beq h
    subst h'
    exact pe_bl.imp fun σ H Q ⟨fm, F, ρ, d, ρ', o, e, q⟩ => by cases e; exact q _ F H o (Ex.refl F) (.bl _)
  · have h' := of_decide_eq_true h
    subst h'
    exact pe_int.imp fun σ H Q ⟨fm, F, ρ, d, ρ', o, e, q⟩ => by cases e; exact q _ F H o (Ex.refl F) (.int _)
  · have h' := of_decide_eq_true h
    subst h'
    exact pe_str.imp fun σ H Q ⟨fm, F, ρ, d, ρ', o, e, q⟩ => by cases e; exact q _ F H o (Ex.refl F) (.str _)
  · cases h
/-- a name as an operand -/
theorem slot_ok {i : Nat} {x : Str} {pos : Pos} (h : varB X.N X.env.scope i x = true) : PE X (.Name x pos) (tAr X.K (opnd G (.slot i))) :=
  (varB_ok h).imp fun σ H Q ⟨fm, F, ρ, o, ρ', k, e, q⟩ => by
    unfold opnd at e
    cases c : getS ρ i with
    | none => rw [c] at e; cases e
    | some s =>
      rw [c] at e; cases e
      obtain ⟨v, h1, _⟩ := k.slot i s c
      exact ⟨v, h1, q v F H k (Ex.refl F) h1⟩
/-- a name as a value: a list of our own stands still from now on -/
theorem var_ok {i : Nat} {x : Str} {pos : Pos} (h : varB X.N X.env.scope i x = true) : PE X (.Name x pos) (tEv X.K (ev G (.var i))) :=
  (varB_ok h).imp fun σ H Q ⟨fm, F, ρ, d, ρ', k, e, q⟩ => by
    unfold ev at e
    cases c : getS ρ i with
    | none => rw [c] at e; cases e
    | some s =>
      rw [c] at e
      cases s with
      | dat d =>
        cases e
        obtain ⟨v, h1, h2⟩ := k.slot i _ c
        exact ⟨v, h1, q v F H k (Ex.refl F) h2⟩
      | mo w =>
        cases w with
        | ins c ns xs => cases e
        | lst xs =>
        cases e
        obtain ⟨v, h1, m⟩ := k.takeO c
        obtain ⟨p, vs, rfl, b1, b2, b3, b4, b5⟩ := m
        obtain ⟨o1, e1, r1⟩ := (k.unset i).freeze b1 b2 b3 b4 b5
        refine ⟨_, h1, q _ _ H ?_ e1 r1⟩
        have hσ : σ.set i (some (V.ref p)) = σ := by
          obtain ⟨hlt, he⟩ := List.getElem?_eq_some_iff.mp h1
          rw [← he]; exact List.set_getElem_self hlt
        have o2 := o1.setD (i := i) r1
        rw [hσ] at o2
        rwa [List.set_set] at o2
end
end Px
set_option Elab.async false
set_option linter.all false
set_option maxRecDepth 100000
set_option maxHeartbeats 2000000
namespace Px
open PySem PySem.Spec PyProof.Rows L2
theorem Out.bind_inv {α β : Type} {x : Out α} {f : α → Out β} {b : β} (h : x.bind f = .ok b) : ∃ a, x = .ok a ∧ f a = .ok b := Out.bind_ok h
section
variable {X : Cx} {G : Sig} {k : Nat} {x y z : Expr} {a b c : Ar} {pos : Pos}
theorem pres_of {K : PySem.W.Frag} {fm : Fm} {F H : Hp} {ρ : PEnv} {σ : L2.St} {d : D} {Q : VK} {fr : Bool} {F0 : Hp} (o : OK K fm F ρ σ H) (e : Ex F0 F) (q : ∀ v F' H', OK K fm F' ρ σ H' → Ex F0 F' → Rep K F' v d → Q v H') : PRes K F H fr d Q where
  dat := fun _ v r => q v F H o e r
  lst := fun p vs xs hp hd r => by
    subst hd
    obtain ⟨o1, e1⟩ := o.frozen (x := .lst vs) hp
    exact q _ _ _ o1 (e.trans e1) (.lst (SqL.of upd_same) (r.mono e1))
  tup := fun p ob vs xs hp ho hd r => by
    subst hd
    obtain ⟨o1, e1⟩ := o.frozen (x := .frz ob (.tup vs)) hp
    exact q _ _ _ o1 (e.trans e1) (.tup ⟨ob, upd_same, ho⟩ (r.mono e1))
/-- a primitive's reading -/
def tPr (fr : Bool) (K : PySem.W.Frag) (g : PEnv → Out (D × PEnv)) : TE := fun σ H Q => ∃ fm F ρ d ρ', OK K fm F ρ σ H ∧ g ρ = .ok (d, ρ') ∧ ∀ F' H', OK K fm F' ρ' σ H' → Ex F F' → PRes K F' H' fr d Q
theorem pr_ev {fr : Bool} {g : PEnv → Out (D × PEnv)} (h : PE X x (tPr fr X.K g)) : PE X x (tEv X.K g) := h.imp fun σ H Q ⟨fm, F, ρ, d, ρ', o, e, q⟩ => ⟨fm, F, ρ, d, ρ', o, e, fun F' H' o' x' => pres_of o' x' q⟩
/-- what an operator by values asks -/
def R2Ok (fr : Bool) (K : PySem.W.Frag) (p : P) (r : R2) : Prop := ∀ F H x y a b d Q, Ex F H → RepO K F H x a → RepO K F H y b → primF p [a, b] = some d → PRes K F H fr d Q → r x y H Q
theorem two_ok {fr : Bool} {p : P} {r : R2} (hr : R2Ok fr X.K p r) {σ : L2.St} {H : Hp} {Q : VK} (h : tPr fr X.K (ev G (.prim p [a, b])) σ H Q) : tOp r (tAr X.K (opnd G a)) (tAr X.K (opnd G b)) σ H Q := by
  obtain ⟨fm, F, ρ, d, ρ', o, e, q⟩ := h
  unfold ev at e
  obtain ⟨⟨os, ρ2⟩, e1, e2⟩ := Out.bind_inv e
  obtain ⟨ds, e3, e4⟩ := Out.bind_inv e2
  obtain ⟨d', e5, e6⟩ := Out.bind_inv e4
  cases e6
  unfold opnds at e1
  obtain ⟨⟨oa, ρ3⟩, f1, f2⟩ := Out.bind_inv e1
  obtain ⟨⟨r1, ρ4⟩, f3, f4⟩ := Out.bind_inv f2
  cases f4
  unfold opnds at f3
  obtain ⟨⟨ob, ρ5⟩, g1, g2⟩ := Out.bind_inv f3
  obtain ⟨⟨r2, ρ6⟩, g3, g4⟩ := Out.bind_inv g2
  cases g4
  unfold opnds at g3
  cases g3
  refine ⟨fm, F, ρ, oa, ρ3, o, f1, fun v F1 H1 o1 x1 q1 => ⟨fm, F1, ρ3, ob, ρ5, o1, g1, fun w F2 H2 o2 x2 q2 => ?_⟩⟩
  have R := OpdsOk.rd o2 (.cons (q1.mono x2) (.cons q2 .nil)) (Out.of_ok e3)
  cases R with
  | cons ra R =>
    cases R with
    | cons rb R =>
      cases R
      exact hr F2 H2 v w _ _ d Q o2.exF ra rb (Out.of_ok e5) (q F2 H2 o2 (x1.trans x2))
theorem one_ok {fr : Bool} {p : P} {r : V → Hp → VK → Prop} (hr : ∀ F H x a d Q, Ex F H → RepO X.K F H x a → primF p [a] = some d → PRes X.K F H fr d Q → r x H Q) {σ : L2.St} {H : Hp} {Q : VK} (h : tPr fr X.K (ev G (.prim p [a])) σ H Q) : tUn r (tAr X.K (opnd G a)) σ H Q := by
  obtain ⟨fm, F, ρ, d, ρ', o, e, q⟩ := h
  unfold ev at e
  obtain ⟨⟨os, ρ2⟩, e1, e2⟩ := Out.bind_inv e
  obtain ⟨ds, e3, e4⟩ := Out.bind_inv e2
  obtain ⟨d', e5, e6⟩ := Out.bind_inv e4
  cases e6
  unfold opnds at e1
  obtain ⟨⟨oa, ρ3⟩, f1, f2⟩ := Out.bind_inv e1
  obtain ⟨⟨r1, ρ4⟩, f3, f4⟩ := Out.bind_inv f2
  cases f4
  unfold opnds at f3
  cases f3
  refine ⟨fm, F, ρ, oa, ρ3, o, f1, fun v F1 H1 o1 x1 q1 => ?_⟩
  have R := OpdsOk.rd o1 (.cons q1 .nil) (Out.of_ok e3)
  cases R with
  | cons ra R =>
    cases R
    exact hr F1 H1 v _ d Q o1.exF ra (Out.of_ok e5) (q F1 H1 o1 x1)
theorem r_bin (op : Operator) : R2Ok true X.K (.bin op) (rBin X.K op) := fun F H x y a b d Q e ra rb h q => ⟨F, a, b, d, e, ra, rb, h, q⟩
theorem r_cmp (op : CmpOp) : R2Ok false X.K (.cmp op) (rCmp X.K op) := fun F H x y a b d Q e ra rb h q => by
  have h' : (cmpF op a b).map D.bl = some d := h
  simp only [Option.map_eq_some_iff] at h'
  obtain ⟨c, h1, rfl⟩ := h'
  exact ⟨F, a, b, c, e, ra, rb, h1, q.bl⟩
theorem r_ix : R2Ok false X.K .ix (rIxD X.K) := fun F H x y a b d Q e ra rb h q => ⟨F, a, b, d, e, ra, rb, h, fun v r => q.dat (fun z => by cases z) v r⟩
theorem bin_ok {op : Operator} (ha : PE X x (tAr X.K (opnd G a))) (hb : PE X y (tAr X.K (opnd G b))) : PE X (.BinOp x op y pos) (tPr true X.K (ev G (.prim (.bin op) [a, b]))) :=
  (pe_op (op_bin op) ha hb).imp fun σ H Q h => two_ok (r_bin op) h
theorem neg_ok (ha : PE X x (tAr X.K (opnd G a))) : PE X (.UnaryOp .USub x pos) (tPr false X.K (ev G (.prim .neg [a]))) :=
  (pe_un op_negD ha).imp fun σ H Q h => one_ok (fun F H x a d Q e r p q => by
    cases a <;> simp only [primF, Option.some.injEq, reduceCtorEq] at p
    subst p
    exact ⟨F, _, e, r, q.int⟩) h
theorem cmp_ok {op : CmpOp} (hu : X.A.units + 65 < cLine) (hn : notSet y = true) (ha : PE X x (tAr X.K (opnd G a))) (hb : PE X y (tAr X.K (opnd G b))) : PE X (.Compare x [op] [y] pos) (tPr false X.K (ev G (.prim (.cmp op) [a, b]))) :=
  (pe_cmpR (op_cmpD hu op) ha hb (notSet_in hn)).imp fun σ H Q h => two_ok (r_cmp op) h
theorem ix_ok (hn : notSlice y = true) (ha : PE X x (tAr X.K (opnd G a))) (hb : PE X y (tAr X.K (opnd G b))) : PE X (.Subscript x y pos) (tPr false X.K (ev G (.prim .ix [a, b]))) :=
  (pe_ix ix_D ha hb (notSlice_ix hn)).imp fun σ H Q h => two_ok r_ix h
/-- a comparison as a test -/
theorem cmpT_ok {op : CmpOp} (hu : X.A.units + 65 < cLine) (hn : notSet y = true) (ha : PE X x (tAr X.K (opnd G a))) (hb : PE X y (tAr X.K (opnd G b))) : PT X (.Compare x [op] [y] pos) (tEvT X.K (evT G (.val (.ex (.prim (.cmp op) [a, b]))))) :=
  (pt_cmpR (op_cmpD hu op) ha hb (notSet_in hn)).imp fun σ H Q h => by
    obtain ⟨fm, F, ρ, t, ρ', o, e, q⟩ := h
    unfold evT at e
    obtain ⟨⟨od, ρ2⟩, e1, e2⟩ := Out.bind_inv e
    unfold opnd at e1
    obtain ⟨⟨d, ρ3⟩, e3, e4⟩ := Out.bind_inv e1
    cases e4
    obtain ⟨d', e5, e6⟩ := Out.bind_inv e2
    have e5' := Out.of_ok e5
    cases e5'
    obtain ⟨t', e7, e8⟩ := Out.bind_inv e6
    cases e8
    refine two_ok (r_cmp op) (G := G) ⟨fm, F, ρ, d, _, o, e3, fun F' H' o' x' => pres_of o' x' fun v F' H' o' x' r => ?_⟩
    have hb : ∃ c, d = .bl c := by
      unfold ev at e3
      obtain ⟨⟨os, ρ4⟩, f1, f2⟩ := Out.bind_inv e3
      obtain ⟨ds, f3, f4⟩ := Out.bind_inv f2
      obtain ⟨d', f5, f6⟩ := Out.bind_inv f4
      cases f6
      have f5' := Out.of_ok f5
      match ds, f5' with
      | [a1, a2], f5' =>
        have f6 : (cmpF op a1 a2).map D.bl = some _ := f5'
        simp only [Option.map_eq_some_iff] at f6
        obtain ⟨c', _, hc'⟩ := f6
        exact ⟨c', hc'.symm⟩
    obtain ⟨c, rfl⟩ := hb
    cases r
    have e7' := Out.of_ok e7
    cases e7'
    exact ⟨_, rfl, q F' H' o' x'⟩
/-- x o y p z -/
theorem chn_rd {o p : CmpOp} {a b c : E} {fm : Fm} {F : Hp} {ρ ρ' : PEnv} {d : D} {σ : L2.St} {H : Hp} {Q : VK} (k : OK X.K fm F ρ σ H) (e : ev G (.chn o p a b c) ρ = .ok (d, ρ')) (q : ∀ t F' H', d = .bl t → OK X.K fm F' ρ' σ H' → Ex F F' → Q (.bl t) H') :
    tChain (rCmp X.K o) (rCmp X.K p) (tEv X.K (ev G a)) (tEv X.K (ev G b)) (tEv X.K (ev G c)) σ H Q := by
  unfold ev at e
  obtain ⟨⟨d1, ρ1⟩, e1, e2⟩ := Out.bind_inv e
  obtain ⟨⟨d2, ρ2⟩, e3, e4⟩ := Out.bind_inv e2
  obtain ⟨t, e5, e6⟩ := Out.bind_inv e4
  refine ⟨fm, F, ρ, d1, ρ1, k, e1, fun v1 F1 H1 o1 x1 r1 => ⟨fm, F1, ρ1, d2, ρ2, o1, e3, fun v2 F2 H2 o2 x2 r2 => ⟨F2, d1, d2, t, o2.exF, .inl (Rep.mono x2 r1), .inl r2, Out.of_ok e5, t, rfl, ?_⟩⟩⟩
  cases t with
  | false =>
    cases e6
    rw [if_neg (by simp)]
    exact q false F2 H2 rfl o2 (x1.trans x2)
  | true =>
    rw [if_pos rfl]
    obtain ⟨⟨d3, ρ3⟩, e7, e8⟩ := Out.bind_inv e6
    obtain ⟨u, e9, e10⟩ := Out.bind_inv e8
    cases e10
    exact ⟨fm, F2, ρ2, d3, ρ3, o2, e7, fun v3 F3 H3 o3 x3 r3 => ⟨F3, d2, d3, u, o3.exF, .inl (Rep.mono x3 r2), .inl r3, Out.of_ok e9, q u F3 H3 rfl o3 (x1.trans (x2.trans x3))⟩⟩
theorem notInO_marks {o p : CmpOp} {y z : Expr} (h1 : notInO o = true) (h2 : notInO p = true) : lastMarks [o, p] [y, z] = false := by
  show behindInMarks p z = false
  exact nomark z (fun e => by rw [e] at h2; cases h2) (fun e => by rw [e] at h2; cases h2)
theorem chn_ok {o p : CmpOp} {a b c : E} {x y z : Expr} {pos : Pos} (hu : X.A.units + 65 < cLine) (h1 : notInO o = true) (h2 : notInO p = true) (ha : PE X x (tEv X.K (ev G a))) (hb : PE X y (tEv X.K (ev G b))) (hc : PE X z (tEv X.K (ev G c))) : PE X (.Compare x [o, p] [y, z] pos) (tEv X.K (ev G (.chn o p a b c))) :=
  (pe_chain (op_cmpD hu o) (op_cmpD hu p) ha hb hc (notInO_marks h1 h2)).imp fun σ H Q ⟨fm, F, ρ, d, ρ', k, e, q⟩ => chn_rd k e fun t F' H' ed o' x' => q _ F' H' o' x' (by rw [ed]; exact .bl t)
theorem chnT_ok {o p : CmpOp} {a b c : E} {x y z : Expr} {pos : Pos} (hu : X.A.units + 65 < cLine) (h1 : notInO o = true) (h2 : notInO p = true) (ha : PE X x (tEv X.K (ev G a))) (hb : PE X y (tEv X.K (ev G b))) (hc : PE X z (tEv X.K (ev G c))) : PT X (.Compare x [o, p] [y, z] pos) (tEvT X.K (evT G (.val (.ex (.chn o p a b c))))) :=
  (pt_chain (op_cmpD hu o) (op_cmpD hu p) ha hb hc (notInO_marks h1 h2)).imp fun σ H Q h => by
    obtain ⟨fm, F, ρ, t, ρ', k, e, q⟩ := h
    unfold evT at e
    obtain ⟨⟨od, ρ2⟩, e1, e2⟩ := Out.bind_inv e
    unfold opnd at e1
    obtain ⟨⟨d, ρ3⟩, e3, e4⟩ := Out.bind_inv e1
    cases e4
    obtain ⟨d', e5, e6⟩ := Out.bind_inv e2
    have e5' := Out.of_ok e5
    cases e5'
    obtain ⟨t', e7, e8⟩ := Out.bind_inv e6
    cases e8
    refine chn_rd k e3 fun u F' H' ed o' x' => ?_
    subst ed
    have e7' := Out.of_ok e7
    cases e7'
    exact ⟨_, rfl, q F' H' o' x'⟩
/-- a value as a test -/
theorem truD_ok {K : PySem.W.Frag} {F H : Hp} {v : V} {d : D} {t : Bool} (e : Ex F H) (r : RepO K F H v d) (h : truD d = some t) : TruV K v H t := by
  cases d with
  | non => obtain rfl := r.non; cases h; rfl
  | bl b => obtain rfl := r.bl; cases h; rfl
  | int i => obtain rfl := r.int; cases h; rfl
  | str s => cases h
  | tup xs =>
    obtain ⟨a, vs, rfl, h1, h2⟩ := r.tup e
    cases h
    refine .inr (.inl ⟨vs, h1, ?_⟩)
    cases h2 <;> rfl
  | lst xs =>
    obtain ⟨a, vs, rfl, h1, h2⟩ := r.lst e
    cases h
    refine .inl ⟨vs, h1, ?_⟩
    cases h2 <;> rfl
  | obj c ns xs => cases h
theorem plain_true {e : Expr} {env : Env} (h : boolShape e = false) : ∀ whole, isTrue e env whole = (do let v ← whole; standAt e.pos; holding [v] (truthy v)) := by
  intro whole
  cases e <;> first
    | rfl
    | (simp [boolShape] at h; done)
    | (rename_i op _ _; cases op <;> first | rfl | (simp [boolShape] at h; done))
theorem val_ok (hs : boolShape x = false) (ha : PE X x (tAr X.K (opnd G a))) : PT X x (tEvT X.K (evT G (.val a))) :=
  (pt_truth ha (plain_true hs)).imp fun σ H Q h => by
    obtain ⟨fm, F, ρ, t, ρ', o, e, q⟩ := h
    unfold evT at e
    obtain ⟨⟨od, ρ2⟩, e1, e2⟩ := Out.bind_inv e
    obtain ⟨d, e5, e6⟩ := Out.bind_inv e2
    obtain ⟨t', e7, e8⟩ := Out.bind_inv e6
    cases e8
    exact ⟨fm, F, ρ, od, ρ2, o, e1, fun v F1 H1 o1 x1 q1 => ⟨t, truD_ok o1.exF (q1.rd o1 (Out.of_ok e5)) (Out.of_ok e7), q F1 H1 o1 x1⟩⟩
/-- slices -/
theorem int_of_rd {K : PySem.W.Frag} {F H : Hp} {v : V} {i : Int} (r : RepO K F H v (.int i)) : v = .int i := r.int
theorem sl0_ok {p2 : Pos} (ha : PE X x (tAr X.K (opnd G a))) : PE X (.Subscript x (.Slice none none none p2) pos) (tPr true X.K (ev G (.prim (.sl false false) [a]))) :=
  (pe_slice sl_D ha po_none po_none).imp fun σ H Q h =>
    one_ok (X := X) (G := G) (a := a) (p := .sl false false) (r := fun v H Q => rSlD X.K v none none H Q) (fun F H x a d Q e r p q => ⟨F, a, d, e, r, p, q⟩) h
theorem sl1_ok {p2 : Pos} (ha : PE X x (tAr X.K (opnd G a))) (hb : PE X y (tAr X.K (opnd G b))) : PE X (.Subscript x (.Slice (some y) none none p2) pos) (tPr true X.K (ev G (.prim (.sl true false) [a, b]))) :=
  (pe_slice sl_D ha (po_some hb) po_none).imp fun σ H Q h =>
    two_ok (X := X) (G := G) (p := .sl true false) (r := fun v u H Q => ∃ i, u = .int i ∧ rSlD X.K v (some i) none H Q) (fun F H x y a b d Q e ra rb p q => by
      cases b <;> simp only [primF, reduceCtorEq] at p
      exact ⟨_, rb.int, F, a, d, e, ra, p, q⟩) h
theorem sl2_ok {p2 : Pos} (ha : PE X x (tAr X.K (opnd G a))) (hb : PE X y (tAr X.K (opnd G b))) : PE X (.Subscript x (.Slice none (some y) none p2) pos) (tPr true X.K (ev G (.prim (.sl false true) [a, b]))) :=
  (pe_slice sl_D ha po_none (po_some hb)).imp fun σ H Q h =>
    two_ok (X := X) (G := G) (p := .sl false true) (r := fun v u H Q => ∃ i, u = .int i ∧ rSlD X.K v none (some i) H Q) (fun F H x y a b d Q e ra rb p q => by
      cases b <;> simp only [primF, reduceCtorEq] at p
      exact ⟨_, rb.int, F, a, d, e, ra, p, q⟩) h
theorem rdAll3 {ρ : PEnv} {o1 o2 o3 : Opd} {ds : List D} (h : rdAll ρ [o1, o2, o3] = some ds) : ∃ d1 d2 d3, ds = [d1, d2, d3] ∧ rdO ρ o1 = some d1 ∧ rdO ρ o2 = some d2 ∧ rdO ρ o3 = some d3 := by
  unfold rdAll at h
  cases c1 : rdO ρ o1 with
  | none => rw [c1] at h; simp at h
  | some d1 =>
    unfold rdAll at h
    cases c2 : rdO ρ o2 with
    | none => rw [c1, c2] at h; simp at h
    | some d2 =>
      unfold rdAll at h
      cases c3 : rdO ρ o3 with
      | none => rw [c1, c2, c3] at h; simp at h
      | some d3 =>
        rw [c1, c2, c3] at h
        unfold rdAll at h
        simp at h
        exact ⟨d1, d2, d3, h.symm, rfl, rfl, rfl⟩
theorem sl3_ok {p2 : Pos} {b' : E} (ha : PE X x (tAr X.K (opnd G a))) (hb : PE X y (tAr X.K (opnd G (.ex b')))) (hc : PE X z (tAr X.K (opnd G c))) : PE X (.Subscript x (.Slice (some y) (some z) none p2) pos) (tPr true X.K (ev G (.prim (.sl true true) [a, .ex b', c]))) :=
  (pe_slice sl_D ha (po_some hb) (po_some hc)).imp fun σ H Q h => by
    obtain ⟨fm, F, ρ, d, ρ', o, e, q⟩ := h
    unfold ev at e
    obtain ⟨⟨os, ρ2⟩, e1, e2⟩ := Out.bind_inv e
    obtain ⟨ds, e3, e4⟩ := Out.bind_inv e2
    obtain ⟨d', e5, e6⟩ := Out.bind_inv e4
    cases e6
    unfold opnds at e1
    obtain ⟨⟨oa, ρ3⟩, f1, f2⟩ := Out.bind_inv e1
    obtain ⟨⟨r1, ρ4⟩, f3, f4⟩ := Out.bind_inv f2
    cases f4
    unfold opnds at f3
    obtain ⟨⟨ob, ρ5⟩, g1, g2⟩ := Out.bind_inv f3
    obtain ⟨⟨r2, ρ6⟩, g3, g4⟩ := Out.bind_inv g2
    cases g4
    unfold opnds at g3
    obtain ⟨⟨oc, ρ7⟩, h1, h2⟩ := Out.bind_inv g3
    obtain ⟨⟨r3, ρ8⟩, h3, h4⟩ := Out.bind_inv h2
    cases h4
    unfold opnds at h3
    cases h3
    obtain ⟨d1, d2, d3, rfl, t1, t2, t3⟩ := rdAll3 (Out.of_ok e3)
    have e5' := Out.of_ok e5
    have g1' := g1
    unfold opnd at g1'
    obtain ⟨⟨db, ρb⟩, u1, u2⟩ := Out.bind_inv g1'
    cases u2
    cases t2
    cases db <;> simp only [primF, reduceCtorEq] at e5'
    cases d3 <;> simp only [primF, reduceCtorEq] at e5'
    refine ⟨fm, F, ρ, oa, ρ3, o, f1, fun v F1 H1 o1 x1 q1 => ⟨fm, F1, ρ3, _, _, o1, g1, fun w F2 H2 o2 x2 q2 => ?_⟩⟩
    cases (show Rep X.K F2 w (.int _) from q2)
    refine ⟨_, rfl, fm, F2, _, oc, _, o2, h1, fun w3 F3 H3 o3 x3 q3 => ?_⟩
    obtain rfl := (q3.rd o3 t3).int
    exact ⟨_, rfl, F3, d1, d, o3.exF, ((q1.mono x2).mono x3).rd o3 t1, e5', q F3 H3 o3 ((x1.trans x2).trans x3)⟩
theorem zip_lookup {K : PySem.W.Frag} {F : Hp} {f : Str} {d : D} : ∀ {ns : List Str} {xs : List D} {vs : List V}, RepAll K F vs xs → (ns.zip xs).lookup f = some d → ∃ v, (ns.zip vs).lookup f = some v ∧ Rep K F v d ∧ f ∈ ns
  | [], _, _, _, h => by simp at h
  | n :: ns, _, _, .nil, h => by simp at h
  | n :: ns, _, _, .cons (v := v) (vs := vs) (d := e) (ds := ds) h r, q => by
    simp only [List.zip_cons_cons, List.lookup_cons] at q ⊢
    cases c : f == n with
    | true => rw [c] at q; cases q; exact ⟨v, rfl, h, by rw [eq_of_beq c]; exact List.mem_cons_self ..⟩
    | false =>
      rw [c] at q
      obtain ⟨w, h1, h2, h3⟩ := zip_lookup r q
      exact ⟨w, h1, h2, List.mem_cons_of_mem _ h3⟩
/-- e.f -/
theorem fld_ok {f : Str} (hs : notSup x = true) (ha : PE X x (tAr X.K (opnd G a))) : PE X (.Attribute x f pos) (tPr false X.K (ev G (.prim (.fld f) [a]))) :=
  (pe_fld ha (notSup_base hs)).imp fun σ H Q h =>
    one_ok (X := X) (G := G) (a := a) (p := .fld f) (r := fun v H1 Q => ∃ a C dx fs u, v = .ref a ∧ H1 a = some (.ins C dx fs) ∧ Cls X.K C ∧ NoAttr X.K C f ∧ fs.lookup f = some u ∧ Q u H1) (fun F H x a d Q e r p q => by
      cases a <;> simp only [primF, reduceCtorEq] at p
      rename_i c ns xs
      obtain ⟨b, C, dx, vs, rfl, hH, hc, ra⟩ := r.obj e
      obtain ⟨u, h1, h2, h3⟩ := zip_lookup ra p
      exact ⟨b, C, dx, _, u, rfl, hH, hc.cls (fun z => by rw [z] at h3; cases h3), hc.no f h3, h1, q.dat (fun z => by cases z) u h2⟩) h
end
end Px
set_option Elab.async false
set_option linter.all false
set_option maxRecDepth 100000
set_option maxHeartbeats 2000000
namespace Px
open PySem PySem.Spec PyProof.Rows L2
section
variable {X : Cx} {G : Sig} {k : Nat} {x y z : Expr} {es : List Expr} {a b c : Ar} {as : List Ar} {irs : List E} {pos : Pos}
/-- argument lists -/
theorem as_nil : PA X [] (tArs X.K (opnds G [])) := pa_nil.imp fun σ H Q h => by
  obtain ⟨fm, F, ρ, os, ρ', o, e, q⟩ := h
  unfold opnds at e
  cases e
  exact q [] F H o (Ex.refl F) .nil
theorem as_cons (hs : notStar x = true) (ha : PE X x (tAr X.K (opnd G a))) (hr : PA X es (tArs X.K (opnds G as))) : PA X (x :: es) (tArs X.K (opnds G (a :: as))) := (pa_cons ha hr (star_cons hs)).imp fun σ H Q h => by
  obtain ⟨fm, F, ρ, os, ρ', o, e, q⟩ := h
  unfold opnds at e
  obtain ⟨⟨oa, ρ1⟩, e1, e2⟩ := Out.bind_inv e
  obtain ⟨⟨rs, ρ2⟩, e3, e4⟩ := Out.bind_inv e2
  cases e4
  exact ⟨fm, F, ρ, oa, ρ1, o, e1, fun v F1 H1 o1 x1 q1 => ⟨fm, F1, ρ1, rs, ρ2, o1, e3, fun vs F2 H2 o2 x2 q2 => q _ F2 H2 o2 (x1.trans x2) (.cons (q1.mono x2) q2)⟩⟩
theorem es_nil : PA X [] (tEvs X.K (evs G [])) := pa_nil.imp fun σ H Q h => by
  obtain ⟨fm, F, ρ, os, ρ', o, e, q⟩ := h
  unfold evs at e
  cases e
  exact q [] F H o (Ex.refl F) .nil
theorem es_cons {i : E} (hs : notStar x = true) (ha : PE X x (tEv X.K (ev G i))) (hr : PA X es (tEvs X.K (evs G irs))) : PA X (x :: es) (tEvs X.K (evs G (i :: irs))) := (pa_cons ha hr (star_cons hs)).imp fun σ H Q h => by
  obtain ⟨fm, F, ρ, os, ρ', o, e, q⟩ := h
  unfold evs at e
  obtain ⟨⟨oa, ρ1⟩, e1, e2⟩ := Out.bind_inv e
  obtain ⟨⟨rs, ρ2⟩, e3, e4⟩ := Out.bind_inv e2
  cases e4
  exact ⟨fm, F, ρ, oa, ρ1, o, e1, fun v F1 H1 o1 x1 q1 => ⟨fm, F1, ρ1, rs, ρ2, o1, e3, fun vs F2 H2 o2 x2 q2 => q _ F2 H2 o2 (x1.trans x2) (.cons (q1.mono x2) q2)⟩⟩
/-- an expression as an operand -/
theorem ex_ok {i : E} (h : PE X x (tEv X.K (ev G i))) : PE X x (tAr X.K (opnd G (.ex i))) := h.imp fun σ H Q h => by
  obtain ⟨fm, F, ρ, os, ρ', o, e, q⟩ := h
  unfold opnd at e
  obtain ⟨⟨d, ρ1⟩, e1, e2⟩ := Out.bind_inv e
  cases e2
  exact ⟨fm, F, ρ, d, ρ1, o, e1, q⟩
theorem WX.units {X : Cx} (w : WX X G k) : X.A.units + 65 < cLine := by have := w.room.un; omega
/-- built-in functions -/
theorem boot_bi (f : BI) : bootBuiltins (Str.ofString f.nm) = some (biV f) := by
  cases f <;> decide +kernel
theorem nm_ne (f : BI) : Str.ofString f.nm ≠ "__name__" ∧ (Str.ofString f.nm == ("__debug__" : Str)) = false ∧ Str.ofString f.nm ∈ bnames := by
  cases f <;> decide +kernel
theorem noStars_any : ∀ {es : List Expr} {p : Pos} {env : Env}, PA X es (tArs X.K (opnds G as)) → (es.all notStar) = true → (backTo p (starEach es env)).any (·.1) = false
  | [], _, _, _, _ => rfl
  | e :: es, p, env, h, hs => by
    rw [List.all_cons, Bool.and_eq_true] at hs
    rw [star_cons hs.1]
    have : ∀ (es : List Expr), es.all notStar = true → (backTo p (starEach es env)).any (·.1) = false := by
      intro es
      induction es with
      | nil => intro _; rfl
      | cons e es ih =>
        intro hs
        rw [List.all_cons, Bool.and_eq_true] at hs
        rw [star_cons hs.1]
        simpa [backTo] using ih hs.2
    simpa [backTo] using this es hs.2
theorem noStars {p : Pos} {env : Env} : ∀ (es : List Expr), es.all notStar = true → (backTo p (starEach es env)).any (·.1) = false := by
  intro es
  induction es with
  | nil => intro _; rfl
  | cons e es ih =>
    intro hs
    rw [List.all_cons, Bool.and_eq_true] at hs
    rw [star_cons hs.1]
    simpa [backTo] using ih hs.2
theorem bi_ok (w : WX X G k) {f : BI} {p : Pos} (hg : globB X.env.scope (Str.ofString f.nm) = true) (hs : (x :: es).all notStar = true) (ha : PA X (x :: es) (tArs X.K (opnds G as))) :
    PE X (.Call (.Name (Str.ofString f.nm) p) (x :: es) [] pos) (tPr (freshP (.bi f)) X.K (ev G (.prim (.bi f) as))) := by
  have hs' := hs
  rw [List.all_cons, Bool.and_eq_true] at hs'
  have key : PE X (.Call (.Name (Str.ofString f.nm) p) (x :: es) [] pos) (tCB (rBi X.K f) (tArs X.K (opnds G as))) := by
    have hc := call_bi (X := X) w.calm w.units f
    have hb := boot_bi f
    obtain ⟨n1, n2, n3⟩ := nm_ne f
    unfold biV at hc hb
    by_cases ht : f.isTy = true
    · rw [if_pos ht] at hc hb
      exact pe_callTy hc (globB_ok hg).1 (w.blt _ n3) hb ha n1 n2 (star_cons hs'.1) (noStars es hs'.2)
    · rw [if_neg ht] at hc hb
      exact pe_callB hc (globB_ok hg).1 (w.blt _ n3) hb ha n1 n2 (star_cons hs'.1) (noStars es hs'.2)
  refine key.imp fun σ H Q h => ?_
  obtain ⟨fm, F, ρ, d, ρ', o, e, q⟩ := h
  unfold ev at e
  obtain ⟨⟨os, ρ2⟩, e1, e2⟩ := Out.bind_inv e
  obtain ⟨ds, e3, e4⟩ := Out.bind_inv e2
  obtain ⟨d', e5, e6⟩ := Out.bind_inv e4
  cases e6
  refine ⟨fm, F, ρ, os, _, o, e1, fun vs F1 H1 o1 x1 q1 => ?_⟩
  exact ⟨F1, ds, d, o1.exF, q1.rd o1 (Out.of_ok e3), Out.of_ok e5, q F1 H1 o1 x1⟩
/-- a keyword's value -/
theorem kw_ok {nm : Option Str} {kpos : Pos} (ha : PE X x (tAr X.K (opnd G a))) : PK X [⟨nm, x, kpos⟩] (tArs X.K (opnds G [a])) := ⟨fun pos pins s σ H Q I h => (pk_cons ha pk_nil).run pos pins s σ H Q I (by
  obtain ⟨fm, F, ρ, os, ρ', o, e, q⟩ := h
  unfold opnds at e
  obtain ⟨⟨oa, ρ1⟩, e1, e2⟩ := Out.bind_inv e
  obtain ⟨⟨rs, ρ2⟩, e3, e4⟩ := Out.bind_inv e2
  cases e4
  unfold opnds at e3
  cases e3
  exact ⟨fm, F, ρ, oa, _, o, e1, fun v F1 H1 o1 x1 q1 => q _ F1 H1 o1 x1 (.cons q1 .nil)⟩)⟩
theorem bid_inv {f : BI} {d1 d2 z : D} (h : bidF f d1 d2 = some z) : ∃ xs, d1 = .lst xs ∧ (xs = [] → z = d2) := by
  unfold bidF at h
  split at h
  · rename_i xs
    cases xs with
    | nil => cases h; exact ⟨_, rfl, fun _ => rfl⟩
    | cons a b => exact ⟨_, rfl, fun e => by cases e⟩
  · rename_i xs
    cases xs with
    | nil => cases h; exact ⟨_, rfl, fun _ => rfl⟩
    | cons a b => exact ⟨_, rfl, fun e => by cases e⟩
  · cases h
theorem rdO_val {ρ : PEnv} {d e : D} (h : rdO ρ (.val d) = some e) : d = e := Option.some.inj h
/-- f(x, default=y) -/
theorem bid_ok (w : WX X G k) {f : BI} {p kpos : Pos} {e : E} (hf : f = .min ∨ f = .max) (hg : globB X.env.scope (Str.ofString f.nm) = true) (hs : notStar x = true) (ha : PE X x (tAr X.K (opnd G a))) (hb : PE X y (tAr X.K (opnd G (.ex e)))) :
    PE X (.Call (.Name (Str.ofString f.nm) p) [x] [⟨some (Str.ofString "default"), y, kpos⟩] pos) (tPr false X.K (ev G (.prim (.bid f) [a, .ex e]))) := by
  obtain ⟨n1, n2, n3⟩ := nm_ne f
  have hc : CallRK X (.builtin f.nm) [Str.ofString "default"] (rBid X.K f) := by
    rcases hf with rfl | rfl
    · exact call_minD w.calm w.units
    · exact call_maxD w.calm w.units
  have hbt : bootBuiltins (Str.ofString f.nm) = some (.builtin f.nm) := by
    rcases hf with rfl | rfl <;> decide +kernel
  have key : PE X (.Call (.Name (Str.ofString f.nm) p) [x] [⟨some (Str.ofString "default"), y, kpos⟩] pos) (tCKw (rBid X.K f) (tArs X.K (opnds G [a])) (tArs X.K (opnds G [.ex e]))) :=
    pe_callBK hc (globB_ok hg).1 (w.blt _ n3) hbt (as_cons hs ha as_nil) (kw_ok hb) n1 n2 (by rw [star_cons hs]; rfl) (by rw [star_cons hs]; rfl) rfl rfl rfl
  refine key.imp fun σ H Q h => ?_
  obtain ⟨fm, F, ρ, d, ρ', o, e0, q⟩ := h
  unfold ev at e0
  obtain ⟨⟨os, ρ2⟩, e1, e2⟩ := Out.bind_inv e0
  obtain ⟨ds, e3, e4⟩ := Out.bind_inv e2
  obtain ⟨d', e5, e6⟩ := Out.bind_inv e4
  cases e6
  unfold opnds at e1
  obtain ⟨⟨oa, ρ3⟩, f1, f2⟩ := Out.bind_inv e1
  obtain ⟨⟨r1, ρ4⟩, f3, f4⟩ := Out.bind_inv f2
  cases f4
  unfold opnds at f3
  obtain ⟨⟨ob, ρ5⟩, g1, g2⟩ := Out.bind_inv f3
  obtain ⟨⟨r2, ρ6⟩, g3, g4⟩ := Out.bind_inv g2
  cases g4
  unfold opnds at g3
  cases g3
  have hob : ∃ dv, ob = .val dv := by
    unfold opnd at g1
    obtain ⟨⟨dv, ρ7⟩, k1, k2⟩ := Out.bind_inv g1
    cases k2; exact ⟨dv, rfl⟩
  obtain ⟨dv, rfl⟩ := hob
  refine ⟨fm, F, ρ, [oa], ρ3, o, by unfold opnds; rw [f1]; unfold opnds; rfl, fun vs F1 H1 o1 x1 q1 => ⟨fm, F1, ρ3, [.val dv], _, o1, by unfold opnds; rw [g1]; unfold opnds; rfl, fun zs F2 H2 o2 x2 q2 => ?_⟩⟩
  cases q1 with
  | cons q1 q1' =>
    cases q1'
    cases q2 with
    | cons q2 q2' =>
      cases q2'
      rename_i v w
      have R := OpdsOk.rd o2 (.cons (q1.mono x2) (.cons q2 .nil)) (Out.of_ok e3)
      have hrd := Out.of_ok e3
      cases R with
      | cons ra R =>
        cases R with
        | cons rb R =>
          cases R
          rename_i d1 d2
          have hd2 : dv = d2 := by
            unfold rdAll at hrd
            cases c1 : rdO _ oa with
            | none => rw [c1] at hrd; simp at hrd
            | some x1 =>
              rw [c1] at hrd
              unfold rdAll at hrd
              simp [rdO, rdAll] at hrd
              exact hrd.2
          subst hd2
          have hz := Out.of_ok e5
          have hz : bidF f d1 dv = some d := hz
          obtain ⟨xs, rfl, hx⟩ := bid_inv hz
          obtain ⟨p, ws, rfl, hp, r1⟩ := ra.lst o2.exF
          have P := q F2 H2 o2 (x1.trans x2)
          refine ⟨F2, p, dv, d, ws, xs, w, rfl, rfl, hp, o2.exF, r1, .inl q2, hz, fun h0 => ?_, fun _ v hv => P.dat (fun e => by cases e) v hv⟩
          have := hx h0
          subst this
          exact P.dat (fun e => by cases e) w q2
/-- tuple(reversed(x)) -/
theorem trev_ok (w : WX X G k) {p p2 pos2 : Pos} (hg : globB X.env.scope "tuple" = true) (hg2 : globB X.env.scope "reversed" = true) (hs : notStar x = true) (ha : PE X x (tAr X.K (opnd G a))) :
    PE X (.Call (.Name "tuple" p) [.Call (.Name "reversed" p2) [x] [] pos2] [] pos) (tPr false X.K (ev G (.prim .trev [a]))) :=
  (pe_tupRevN w.calm (globB_ok hg).1 (w.blt _ (by decide)) (globB_ok hg2).1 (w.blt _ (by decide)) ha (star_cons hs) rfl).imp fun σ H Q h =>
    one_ok (X := X) (G := G) (a := a) (p := .trev) (r := fun v H1 Q => ∃ (a : Addr) (xs : List V), v = .ref a ∧ SqL X.K H1 a xs ∧ ∀ q (o : Obj), H1 q = none → o.dict = none → Q (.ref q) (upd H1 q (.frz o (.tup xs.reverse)))) (fun F H x a d Q e r p q => by
      cases a <;> simp only [primF, Option.some.injEq, reduceCtorEq] at p
      subst p
      obtain ⟨b, ws, rfl, hb, rb⟩ := r.lst e
      have rev : ∀ {ds : List D} {vs : List V}, RepAll X.K F vs ds → RepAll X.K F vs.reverse ds.reverse := by
        intro ds
        induction ds with
        | nil => intro vs h; cases h; exact .nil
        | cons d ds ih =>
          intro vs h
          cases h with
          | cons h1 h2 => rw [List.reverse_cons, List.reverse_cons]; exact (ih h2).app (.one h1)
      exact ⟨b, ws, rfl, hb, fun p o hp ho => q.tup p _ _ _ hp ho rfl (rev rb)⟩) h
/-- l.count(y), l.index(y) -/
theorem mth_ok (w : WX X G k) {m : MT} {i : E} {apos cpos : Pos} (hn : notSup x = true) (hv : PE X x (tEv X.K (ev G i))) (hs : notStar y = true) (hb : PE X y (tAr X.K (opnd G b))) (hl : (apos.endLine == cpos.line) = true) :
    PE X (.Call (.Attribute x (Str.ofString m.nm) apos) [y] [] cpos) (tPr false X.K (ev G (.prim (.mth m) [.ex i, b]))) := by
  have hy := as_cons hs hb as_nil
  have key : PE X (.Call (.Attribute x (Str.ofString m.nm) apos) [y] [] cpos) (tMD X.K m (tEv X.K (ev G i)) (tArs X.K (opnds G [b]))) :=
    pe_mD w.units hv hy (notSup_base hn) (by rw [star_cons hs]; rfl) hl (star_cons hs) rfl
  refine key.imp fun σ H Q h => ?_
  obtain ⟨fm, F, ρ, d, ρ', o, e0, q⟩ := h
  unfold ev at e0
  obtain ⟨⟨os, ρ2⟩, e1, e2⟩ := Out.bind_inv e0
  obtain ⟨ds, e3, e4⟩ := Out.bind_inv e2
  obtain ⟨d', e5, e6⟩ := Out.bind_inv e4
  cases e6
  unfold opnds at e1
  obtain ⟨⟨oa, ρ3⟩, f1, f2⟩ := Out.bind_inv e1
  obtain ⟨⟨r1, ρ4⟩, f3, f4⟩ := Out.bind_inv f2
  cases f4
  unfold opnd at f1
  obtain ⟨⟨d1, ρ5⟩, k1, k2⟩ := Out.bind_inv f1
  cases k2
  unfold opnds at f3
  obtain ⟨⟨ob, ρ7⟩, g1, g2⟩ := Out.bind_inv f3
  obtain ⟨⟨r2, ρ6⟩, g3, g4⟩ := Out.bind_inv g2
  cases g4
  unfold opnds at g3
  cases g3
  have hrd := Out.of_ok e3
  obtain ⟨db, hdb⟩ : ∃ db, ds = [d1, db] := by
    unfold rdAll at hrd
    cases c1 : rdAll _ [ob] with
    | none => rw [c1] at hrd; simp [rdO] at hrd
    | some es =>
      rw [c1] at hrd
      unfold rdAll at c1
      cases c2 : rdO _ ob with
      | none => rw [c2] at c1; simp at c1
      | some db =>
        rw [c2] at c1
        simp [rdAll] at c1
        subst c1
        simp [rdO] at hrd
        exact ⟨db, hrd.symm⟩
  subst hdb
  have hz : mthF m d1 db = some d := Out.of_ok e5
  have hc : ∃ xs, d1 = .lst xs ∨ d1 = .tup xs := by
    unfold mthF at hz
    split at hz
    · exact ⟨_, .inl rfl⟩
    · exact ⟨_, .inl rfl⟩
    · exact ⟨_, .inr rfl⟩
    · exact ⟨_, .inr rfl⟩
    · cases hz
  have hni : ∀ ys, d ≠ .lst ys := fun ys e => by
    subst e
    unfold mthF at hz
    split at hz
    · obtain ⟨_, _, _, _, hz⟩ := cntF_ok hz; cases hz
    · unfold idxF at hz; split at hz
      · rw [Option.map_eq_some_iff] at hz; obtain ⟨_, _, hz⟩ := hz; cases hz
      · cases hz
    · obtain ⟨_, _, _, _, hz⟩ := cntF_ok hz; cases hz
    · unfold idxPF at hz; split at hz
      · rw [Option.map_eq_some_iff] at hz; obtain ⟨_, _, hz⟩ := hz; cases hz
      · cases hz
    · cases hz
  obtain ⟨xs, rfl | rfl⟩ := hc
  · refine ⟨fm, F, ρ, .lst xs, _, o, k1, fun v F1 H1 o1 x1 r1 => ?_⟩
    obtain ⟨p, ws, rfl, hp, ra⟩ := RepO.lst o1.exF (.inl r1)
    refine ⟨p, rfl, .inl ⟨⟨ws, hp⟩, fm, F1, _, [ob], _, o1, by unfold opnds; rw [g1]; unfold opnds; rfl, fun zs F2 H2 o2 x2 q2 => ?_⟩⟩
    cases q2 with
    | cons q2 q2' =>
      cases q2'
      have R := OpdsOk.rd o2 (.cons (show OpdOk X.K F2 σ (.ref p) (.val (.lst xs)) from r1.mono x2) (.cons q2 .nil)) hrd
      cases R with
      | cons ra' R =>
        cases R with
        | cons rb R =>
          cases R
          obtain ⟨p2, ws2, e9, hp2, ra2⟩ := ra'.lst o2.exF
          cases e9
          exact ⟨F2, p, ws2, xs, _, db, d, rfl, rfl, hp2, o2.exF, ra2, rb, hz, fun v hv => (q F2 H2 o2 (x1.trans x2)).dat (fun _ => hni) v hv⟩
  · refine ⟨fm, F, ρ, .tup xs, _, o, k1, fun v F1 H1 o1 x1 r1 => ?_⟩
    obtain ⟨p, ws, rfl, hp, ra⟩ := RepO.tupN o1.exF (.inl r1)
    refine ⟨p, rfl, .inr ⟨⟨ws, hp⟩, fm, F1, _, [ob], _, o1, by unfold opnds; rw [g1]; unfold opnds; rfl, fun zs F2 H2 o2 x2 q2 => ?_⟩⟩
    cases q2 with
    | cons q2 q2' =>
      cases q2'
      have R := OpdsOk.rd o2 (.cons (show OpdOk X.K F2 σ (.ref p) (.val (.tup xs)) from r1.mono x2) (.cons q2 .nil)) hrd
      cases R with
      | cons ra' R =>
        cases R with
        | cons rb R =>
          cases R
          obtain ⟨p2, ws2, e9, hp2, ra2⟩ := ra'.tup o2.exF
          cases e9
          exact ⟨F2, p, ws2, xs, _, db, d, rfl, rfl, hp2, o2.exF, ra2, rb, hz, fun v hv => (q F2 H2 o2 (x1.trans x2)).dat (fun _ => hni) v hv⟩
/-- x[::-1] -/
theorem srev_ok {kk : Nat} {p1 p2 p3 : Pos} (ha : PE X x (tAr X.K (opnd G a))) : PE X (.Subscript x (.Slice none none (some (.UnaryOp .USub (.Constant (.int 1) kk p1) p2)) p3) pos) (tPr true X.K (ev G (.prim .srev [a]))) :=
  (pe_revD ha).imp fun σ H Q h =>
    one_ok (X := X) (G := G) (a := a) (p := .srev) (r := rRevD X.K) (fun F H x a d Q e r p q => by
      have rev : ∀ {ds : List D} {vs : List V}, RepAll X.K F vs ds → RepAll X.K F vs.reverse ds.reverse := by
        intro ds
        induction ds with
        | nil => intro vs h; cases h; exact .nil
        | cons d ds ih =>
          intro vs h
          cases h with
          | cons h1 h2 => rw [List.reverse_cons, List.reverse_cons]; exact (ih h2).app (.one h1)
      cases a <;> simp only [primF, Option.some.injEq, reduceCtorEq] at p
      · subst p
        obtain ⟨b, ws, rfl, hb, rb⟩ := r.tup e
        exact ⟨b, ws, rfl, .inr ⟨hb, fun p o hp ho => q.tup p _ _ _ hp ho rfl (rev rb)⟩⟩
      · subst p
        obtain ⟨b, ws, rfl, hb, rb⟩ := r.lst e
        exact ⟨b, ws, rfl, .inl ⟨hb, fun p hp => q.lst p _ _ hp rfl (rev rb)⟩⟩) h
/-- a new list of our own -/
def tOwn (K : PySem.W.Frag) (g : PEnv → Out (D × PEnv)) : TE := fun σ H Q => ∃ fm F ρ xs ρ', OK K fm F ρ σ H ∧ g ρ = .ok (.lst xs, ρ') ∧ ∀ v F' H', OK K fm F' ρ' σ H' → Ex F F' → Mine K fm F' ρ' σ H' v (.lst xs) → Q v H'
theorem OK.mine {K : PySem.W.Frag} {fm : Fm} {F H : Hp} {ρ : PEnv} {σ : L2.St} (o : OK K fm F ρ σ H) {p : Addr} {vs : List V} {xs : List D} (hp : H p = none) (r : RepAll K F vs xs) : Mine K fm F ρ σ (L2.upd H p (.lst vs)) (.ref p) (.lst xs) :=
  ⟨p, _, rfl, o.exB.fresh hp, o.exF.fresh hp, upd_same, ⟨vs, rfl, r⟩, fun i ys e z => by
    obtain ⟨v, h1, q, ws, rfl, _, _, b3, _⟩ := o.slot i _ e
    rw [z] at h1; cases h1
    rw [hp] at b3; cases b3⟩
theorem own_ev_rd {K : PySem.W.Frag} {g : PEnv → Out (D × PEnv)} (hg : ∀ ρ d ρ', g ρ = .ok (d, ρ') → ∃ xs, d = .lst xs) {σ : L2.St} {H : Hp} {Q : VK} (h : tEv K g σ H Q) : tOwn K g σ H Q := by
  obtain ⟨fm, F, ρ, d, ρ', o, e, q⟩ := h
  obtain ⟨xs, rfl⟩ := hg ρ d ρ' e
  refine ⟨fm, F, ρ, xs, ρ', o, e, fun v F' H' o' x' m => ?_⟩
  obtain ⟨p, vs, rfl, b1, b2, b3, b4, b5⟩ := m
  obtain ⟨o3, x3, r3⟩ := o'.freeze b1 b2 b3 b4 b5
  exact q _ _ H' o3 (x'.trans x3) r3
theorem own_ev {g : PEnv → Out (D × PEnv)} (hg : ∀ ρ d ρ', g ρ = .ok (d, ρ') → ∃ xs, d = .lst xs) (h : PE X x (tOwn X.K g)) : PE X x (tEv X.K g) := h.imp fun σ H Q h => own_ev_rd hg h
theorem dsp_lst : ∀ ρ d ρ', ev G (.dsp false irs) ρ = .ok (d, ρ') → ∃ xs, d = .lst xs := fun ρ d ρ' e => by
  unfold ev at e
  obtain ⟨⟨ds, ρ2⟩, e1, e2⟩ := Out.bind_inv e
  have e2 : (if ds.length ≤ lim then Out.ok (if false = true then D.tup ds else D.lst ds, ρ2) else Out.bad) = Out.ok (d, ρ') := e2
  by_cases c : ds.length ≤ lim
  · rw [if_pos c] at e2; cases e2; exact ⟨_, rfl⟩
  · rw [if_neg c] at e2; cases e2
/-- displays -/
theorem dspT_ok {kk : Nat} (ha : PA X es (tEvs X.K (evs G irs))) : PE X (.Tuple es kk pos) (tEv X.K (ev G (.dsp true irs))) := (pe_tupN ha).imp fun σ H Q h => by
  obtain ⟨fm, F, ρ, d, ρ', o, e, q⟩ := h
  unfold ev at e
  obtain ⟨⟨ds, ρ2⟩, e1, e2⟩ := Out.bind_inv e
  have e2 : (if ds.length ≤ lim then Out.ok (if true = true then D.tup ds else D.lst ds, ρ2) else Out.bad) = Out.ok (d, ρ') := e2
  by_cases c : ds.length ≤ lim
  · rw [if_pos c] at e2
    cases e2
    refine ⟨fm, F, ρ, ds, _, o, e1, fun vs F1 H1 o1 x1 r1 => ⟨by rw [r1.length, ← lim_eq]; exact c, fun p ob hp ho => ?_⟩⟩
    obtain ⟨o2, x2⟩ := o1.frozen (x := .frz ob (.tup vs)) hp
    exact q _ _ _ o2 (x1.trans x2) (.tup ⟨ob, upd_same, ho⟩ (r1.mono x2))
  · rw [if_neg c] at e2; cases e2
theorem dspL_ok (ha : PA X es (tEvs X.K (evs G irs))) : PE X (.List es pos) (tOwn X.K (ev G (.dsp false irs))) := (pe_lst ha).imp fun σ H Q h => by
  obtain ⟨fm, F, ρ, d, ρ', o, e, q⟩ := h
  unfold ev at e
  obtain ⟨⟨ds, ρ2⟩, e1, e2⟩ := Out.bind_inv e
  have e2 : (if ds.length ≤ lim then Out.ok (if false = true then D.tup ds else D.lst ds, ρ2) else Out.bad) = Out.ok (.lst d, ρ') := e2
  by_cases c : ds.length ≤ lim
  · rw [if_pos c] at e2
    cases e2
    refine ⟨fm, F, ρ, _, _, o, e1, fun vs F1 H1 o1 x1 r1 => ⟨by rw [r1.length, ← lim_eq]; exact c, fun p hp => ?_⟩⟩
    exact q _ _ _ (o1.newH (x := .lst vs) hp) x1 (o1.mine hp r1)
  · rw [if_neg c] at e2; cases e2
/-- not, and, or as values -/
theorem not_ok {i : E} (h : PE X x (tEv X.K (ev G i))) : PE X (.UnaryOp .Not x pos) (tEv X.K (ev G (.not i))) := (pe_not h).imp fun σ H Q h => by
  obtain ⟨fm, F, ρ, d, ρ', o, e, q⟩ := h
  unfold ev at e
  obtain ⟨⟨d1, ρ2⟩, e1, e2⟩ := Out.bind_inv e
  cases d1 <;> try (cases e2; done)
  cases e2
  exact ⟨fm, F, ρ, _, _, o, e1, fun v F1 H1 o1 x1 r1 => by cases r1; exact ⟨_, rfl, q _ F1 H1 o1 x1 (.bl _)⟩⟩
theorem bop_one {c : Bool} {i : E} (h : PE X x (tEv X.K (ev G i))) : PE X (.BoolOp (if c then .And else .Or) [x] pos) (tEv X.K (evB G c [i])) := (pe_one h).imp fun σ H Q h => by
  obtain ⟨fm, F, ρ, d, ρ', o, e, q⟩ := h
  unfold evB at e
  obtain ⟨⟨d1, ρ2⟩, e1, e2⟩ := Out.bind_inv e
  cases e2
  exact ⟨fm, F, ρ, _, _, o, e1, q⟩
theorem bop_cons {c : Bool} {i i2 : E} (h : PE X x (tEv X.K (ev G i))) (hr : PE X (.BoolOp (if c then .And else .Or) (y :: es) pos) (tEv X.K (evB G c (i2 :: irs)))) :
    PE X (.BoolOp (if c then .And else .Or) (x :: y :: es) pos) (tEv X.K (evB G c (i :: i2 :: irs))) := by
  cases c with
  | true =>
    refine (pe_and h hr).imp fun σ H Q h => ?_
    obtain ⟨fm, F, ρ, d, ρ', o, e, q⟩ := h
    unfold evB at e
    obtain ⟨⟨d1, ρ2⟩, e1, e2⟩ := Out.bind_inv e
    cases d1 <;> try (cases e2; done)
    rename_i bb
    refine ⟨fm, F, ρ, _, _, o, e1, fun v F1 H1 o1 x1 r1 => ?_⟩
    cases r1
    refine ⟨bb, rfl, ?_⟩
    cases bb with
    | true => rw [if_pos rfl]; exact ⟨fm, F1, _, d, ρ', o1, e2, fun v F2 H2 o2 x2 r2 => q v F2 H2 o2 (x1.trans x2) r2⟩
    | false => cases e2; rw [if_neg (by decide)]; exact q _ F1 H1 o1 x1 (.bl _)
  | false =>
    refine (pe_or h hr).imp fun σ H Q h => ?_
    obtain ⟨fm, F, ρ, d, ρ', o, e, q⟩ := h
    unfold evB at e
    obtain ⟨⟨d1, ρ2⟩, e1, e2⟩ := Out.bind_inv e
    cases d1 <;> try (cases e2; done)
    rename_i bb
    refine ⟨fm, F, ρ, _, _, o, e1, fun v F1 H1 o1 x1 r1 => ?_⟩
    cases r1
    refine ⟨bb, rfl, ?_⟩
    cases bb with
    | true => cases e2; rw [if_pos rfl]; exact q _ F1 H1 o1 x1 (.bl _)
    | false => rw [if_neg (by decide)]; exact ⟨fm, F1, _, d, ρ', o1, e2, fun v F2 H2 o2 x2 r2 => q v F2 H2 o2 (x1.trans x2) r2⟩
theorem bop_ok {c : Bool} (h : PE X y (tEv X.K (evB G c irs))) : PE X y (tEv X.K (ev G (.bop c irs))) := h.imp fun σ H Q h => by
  obtain ⟨fm, F, ρ, d, ρ', o, e, q⟩ := h
  unfold ev at e
  exact ⟨fm, F, ρ, d, ρ', o, e, q⟩
/-- a if c else b -/
theorem ite_ok {t : T} {i j : E} (hc : PT X x (tEvT X.K (evT G t))) (h1 : PE X y (tEv X.K (ev G i))) (h2 : PE X z (tEv X.K (ev G j))) : PE X (.IfExp x y z pos) (tEv X.K (ev G (.ite t i j))) := (pe_ifExp hc h1 h2).imp fun σ H Q h => by
  obtain ⟨fm, F, ρ, d, ρ', o, e, q⟩ := h
  unfold ev at e
  obtain ⟨⟨bb, ρ2⟩, e1, e2⟩ := Out.bind_inv e
  refine ⟨fm, F, ρ, bb, ρ2, o, e1, fun F1 H1 o1 x1 => ?_⟩
  cases bb with
  | true => rw [if_pos rfl]; exact ⟨fm, F1, ρ2, d, ρ', o1, e2, fun v F2 H2 o2 x2 r2 => q v F2 H2 o2 (x1.trans x2) r2⟩
  | false => rw [if_neg (by decide)]; exact ⟨fm, F1, ρ2, d, ρ', o1, e2, fun v F2 H2 o2 x2 r2 => q v F2 H2 o2 (x1.trans x2) r2⟩
/-- isinstance -/
theorem isi_ty {K : PySem.W.Frag} {F H : Hp} {v : V} {d : D} (e : Ex F H) (r : RepO K F H v d) (ho : d.isObj = false) : ∃ t, TyX K H v (.type t) ∧ ∀ ty : IT, PySem.W.kitOne K (.type t) (.type ty.nm) = some (isiF d ty) := by
  cases d with
  | non => obtain rfl := r.non; exact ⟨_, .base .non, fun ty => by cases ty <;> exact kit_ty (by simp only [isiF]; decide +kernel)⟩
  | bl b => obtain rfl := r.bl; exact ⟨_, .base (.bl b), fun ty => by cases ty <;> exact kit_ty (by simp only [isiF]; decide +kernel)⟩
  | int i => obtain rfl := r.int; exact ⟨_, .base (.int i), fun ty => by cases ty <;> exact kit_ty (by simp only [isiF]; decide +kernel)⟩
  | str s => obtain rfl := r.str; exact ⟨_, .base (.str s), fun ty => by cases ty <;> exact kit_ty (by simp only [isiF]; decide +kernel)⟩
  | tup xs =>
    obtain ⟨a, vs, rfl, h1, h2⟩ := r.tup e
    refine ⟨"tuple", ?_, fun ty => by cases ty <;> exact kit_ty (by simp only [isiF]; decide +kernel)⟩
    rcases h1 with (h | ⟨ob, h⟩) | ⟨ob, its, n, h, hc, _⟩
    · exact .base (.tup h)
    · exact .fTuple h
    · exact .kTuple h hc
  | lst xs =>
    obtain ⟨a, vs, rfl, h1, h2⟩ := r.lst e
    refine ⟨"list", ?_, fun ty => by cases ty <;> exact kit_ty (by simp only [isiF]; decide +kernel)⟩
    rcases h1 with (h | ⟨ob, h⟩) | ⟨ob, its, n, h, hc, _⟩
    · exact .base (.lst h)
    · exact .base (.frz h)
    · exact .kList h hc
  | obj c ns xs => cases ho
theorem boot_it (t : IT) : bootBuiltins (Str.ofString t.nm) = some (.type t.nm) ∧ Str.ofString t.nm ≠ "__name__" ∧ Str.ofString t.nm ∈ bnames := by
  cases t <;> decide +kernel
theorem isi_ok (w : WX X G k) {ty : IT} {p p2 : Pos} (hg : globB X.env.scope "isinstance" = true) (hg2 : globB X.env.scope (Str.ofString ty.nm) = true) (hs : notStar x = true) (ha : PE X x (tAr X.K (opnd G a))) :
    PE X (.Call (.Name "isinstance" p) [x, .Name (Str.ofString ty.nm) p2] [] pos) (tEv X.K (ev G (.isi a ty))) := by
  obtain ⟨b1, b2, b3⟩ := boot_it ty
  have ht : PE X (.Name (Str.ofString ty.nm) p2) (tC (.ty ty.nm)) := pe_bltn (globB_ok hg2).1 (w.blt _ b3) b1 rfl b2 (globB_ok hg2).2
  refine (pe_callB call_isi (globB_ok hg).1 (w.blt _ (by decide)) boot_isinstance (pa_cons ha (pa_cons ht pa_nil) (star_cons hs)) (by decide) (by decide) (star_cons hs) (by rfl)).imp fun σ H Q h => ?_
  obtain ⟨fm, F, ρ, d, ρ', o, e, q⟩ := h
  unfold ev at e
  obtain ⟨⟨oa, ρ2⟩, e1, e2⟩ := Out.bind_inv e
  obtain ⟨d1, e3, e4⟩ := Out.bind_inv e2
  split at e4
  · cases e4
  rename_i ho
  cases e4
  refine ⟨fm, F, ρ, oa, _, o, e1, fun v F1 H1 o1 x1 r1 => ?_⟩
  obtain ⟨t, h1, h2⟩ := isi_ty o1.exF (r1.rd o1 (Out.of_ok e3)) (by simpa using ho)
  exact ⟨v, .ty ty.nm, _, _, _, rfl, .ty _, h1, h2 ty, q _ F1 H1 o1 x1 (.bl _)⟩
/-- tests -/
theorem c_nil {c : Bool} : PW X (.BoolOp (if c then .And else .Or) [] pos) (tEvT X.K (evC G c [])) := by
  refine ⟨fun wh pins s σ H Q I h => ?_⟩
  obtain ⟨fm, F, ρ, bb, ρ', o, e, q⟩ := h
  unfold evC at e
  cases e
  cases c with
  | true => exact isTrue_and_nil (⟨H, I, q F H o (Ex.refl F)⟩)
  | false => exact isTrue_or_nil (⟨H, I, q F H o (Ex.refl F)⟩)
theorem c_cons {c : Bool} {t : T} {ts : List T} (ha : PT X x (tEvT X.K (evT G t))) (hr : PW X (.BoolOp (if c then .And else .Or) es pos) (tEvT X.K (evC G c ts))) :
    PW X (.BoolOp (if c then .And else .Or) (x :: es) pos) (tEvT X.K (evC G c (t :: ts))) := by
  refine ⟨fun wh pins s σ H Q I h => ?_⟩
  obtain ⟨fm, F, ρ, bb, ρ', o, e, q⟩ := h
  unfold evC at e
  obtain ⟨⟨b1, ρ1⟩, e1, e2⟩ := Out.bind_inv e
  have go := ha.run pins s σ H (fun b' H1 => ∃ F1, b' = b1 ∧ OK X.K fm F1 ρ1 σ H1 ∧ Ex F F1) I ⟨fm, F, ρ, b1, ρ1, o, e1, fun F1 H1 o1 x1 => ⟨F1, rfl, o1, x1⟩⟩
  cases c with
  | true =>
    refine isTrue_and (thn go fun c1 s1 ⟨H1, I1, F1, hb, o1, x1⟩ => ?_)
    subst hb
    cases c1 with
    | true =>
      have e2 : evC G true ts ρ1 = _ := e2
      exact hr.run wh pins s1 σ H1 Q I1 ⟨fm, F1, ρ1, bb, ρ', o1, e2, fun F2 H2 o2 x2 => q F2 H2 o2 (x1.trans x2)⟩
    | false => cases e2; exact ⟨H1, I1, q F1 H1 o1 x1⟩
  | false =>
    refine isTrue_or (thn go fun c1 s1 ⟨H1, I1, F1, hb, o1, x1⟩ => ?_)
    subst hb
    cases c1 with
    | false =>
      have e2 : evC G false ts ρ1 = _ := e2
      exact hr.run wh pins s1 σ H1 Q I1 ⟨fm, F1, ρ1, bb, ρ', o1, e2, fun F2 H2 o2 x2 => q F2 H2 o2 (x1.trans x2)⟩
    | true => cases e2; exact ⟨H1, I1, q F1 H1 o1 x1⟩
theorem cT_ok {c : Bool} {ts : List T} (h : PW X y (tEvT X.K (evC G c ts))) : PT X y (tEvT X.K (evT G (.bop c ts))) := h.pt.imp fun σ H Q h => by
  obtain ⟨fm, F, ρ, d, ρ', o, e, q⟩ := h
  unfold evT at e
  exact ⟨fm, F, ρ, d, ρ', o, e, q⟩
theorem nT_ok {t : T} (h : PT X x (tEvT X.K (evT G t))) : PT X (.UnaryOp .Not x pos) (tEvT X.K (evT G (.not t))) := (pt_not h).imp fun σ H Q h => by
  obtain ⟨fm, F, ρ, d, ρ', o, e, q⟩ := h
  unfold evT at e
  obtain ⟨⟨b1, ρ1⟩, e1, e2⟩ := Out.bind_inv e
  cases e2
  exact ⟨fm, F, ρ, b1, _, o, e1, q⟩
end
end Px
set_option Elab.async false
set_option linter.all false
set_option maxRecDepth 100000
set_option maxHeartbeats 2000000
namespace Px
open PySem PySem.Spec PyProof.Rows L2
/-! ### calls -/
/-- a value, or a new list of our own -/
def SlotRes (K : PySem.W.Frag) (fm : Fm) (F : Hp) (ρ : PEnv) (σ : L2.St) (H : Hp) (v : V) : Slot → Prop
  | .dat d => Rep K F v d
  | .mo ys => Mine K fm F ρ σ H v ys
section
variable {K : PySem.W.Frag} {fm : Fm} {F H : Hp} {ρ : PEnv} {σ : L2.St}
theorem args_ok (o : OK K fm F ρ σ H) : ∀ {vs : List V} {os : List Opd} {as : List Slot}, OpdsOk K F σ vs os → argS ρ os = some as → ArgsOk K F H vs as
  | _, _, _, .nil, e => by cases e; exact .nil
  | _, _, as, .cons (o := op) (os := os) h r, e => by
    cases op with
    | val d =>
      unfold argS at e
      simp only [Option.map_eq_some_iff] at e
      obtain ⟨as', e1, rfl⟩ := e
      exact .cons h (args_ok o r e1)
    | slot i =>
      unfold argS at e
      split at e
      · rename_i xs hs
        simp only [Option.map_eq_some_iff] at e
        obtain ⟨as', e1, rfl⟩ := e
        refine .cons ?_ (args_ok o r e1)
        obtain ⟨v, h1, p, ws, rfl, b1, b2, b3, b4⟩ := o.slot i _ hs
        have h' : σ[i]? = some (some _) := h
        rw [h'] at h1; cases h1
        exact ⟨p, ws, rfl, b2, b3, b4⟩
      · cases e
/-- the j-th argument, a list of our own, is the slot's -/
theorem args_slot : ∀ {os : List Opd} {as : List Slot} {j : Nat} {xs : Own}, argS ρ os = some as → as[j]? = some (Slot.mo xs) → ∃ i, os[j]? = some (Opd.slot i) ∧ getS ρ i = some (.mo xs)
  | [], as, j, xs, e, h => by cases e; simp at h
  | .val d :: os, as, j, xs, e, h => by
    unfold argS at e
    simp only [Option.map_eq_some_iff] at e
    obtain ⟨as', e1, rfl⟩ := e
    cases j with
    | zero => simp at h
    | succ j => obtain ⟨i, h1, h2⟩ := args_slot (j := j) e1 (by simpa using h); exact ⟨i, by simpa using h1, h2⟩
  | .slot i :: os, as, j, xs, e, h => by
    unfold argS at e
    split at e
    · rename_i ys hs
      simp only [Option.map_eq_some_iff] at e
      obtain ⟨as', e1, rfl⟩ := e
      cases j with
      | zero => simp at h; subst h; exact ⟨i, rfl, hs⟩
      | succ j => obtain ⟨i2, h1, h2⟩ := args_slot (j := j) e1 (by simpa using h); exact ⟨i2, by simpa using h1, h2⟩
    · cases e
theorem args_own : ∀ {os : List Opd} {as : List Slot} {j i : Nat}, argS ρ os = some as → os[j]? = some (Opd.slot i) → ∃ xs, as[j]? = some (Slot.mo xs) ∧ getS ρ i = some (.mo xs)
  | [], as, j, i, e, h => by simp at h
  | .val d :: os, as, j, i, e, h => by
    unfold argS at e
    simp only [Option.map_eq_some_iff] at e
    obtain ⟨as', e1, rfl⟩ := e
    cases j with
    | zero => simp at h
    | succ j => obtain ⟨xs, h1, h2⟩ := args_own (j := j) e1 (by simpa using h); exact ⟨xs, by simpa using h1, h2⟩
  | .slot i2 :: os, as, j, i, e, h => by
    unfold argS at e
    split at e
    · rename_i ys hs
      simp only [Option.map_eq_some_iff] at e
      obtain ⟨as', e1, rfl⟩ := e
      cases j with
      | zero => simp at h; subst h; exact ⟨ys, rfl, hs⟩
      | succ j => obtain ⟨xs, h1, h2⟩ := args_own (j := j) e1 (by simpa using h); exact ⟨xs, by simpa using h1, h2⟩
    · cases e
theorem slots_mem : ∀ {os : List Opd} {i : Nat}, i ∈ slotsOf os ↔ ∃ j : Nat, os[j]? = some (Opd.slot i)
  | [], i => by simp [slotsOf]
  | .val d :: os, i => by
    unfold slotsOf
    rw [slots_mem]
    constructor
    · rintro ⟨j, h⟩; exact ⟨j + 1, by simpa using h⟩
    · rintro ⟨j, h⟩
      cases j with
      | zero => simp at h
      | succ j => exact ⟨j, by simpa using h⟩
  | .slot k :: os, i => by
    unfold slotsOf
    rw [List.mem_cons, slots_mem]
    constructor
    · rintro (h | ⟨j, h⟩)
      · exact ⟨0, by simp [h]⟩
      · exact ⟨j + 1, by simpa using h⟩
    · rintro ⟨j, h⟩
      cases j with
      | zero => simp at h; exact .inl h.symm
      | succ j => exact .inr ⟨j, by simpa using h⟩
theorem slots_inj : ∀ {os : List Opd} {i j k : Nat}, (slotsOf os).Nodup → os[j]? = some (Opd.slot i) → os[k]? = some (Opd.slot i) → j = k
  | [], i, j, k, n, h1, h2 => by simp at h1
  | .val d :: os, i, j, k, n, h1, h2 => by
    unfold slotsOf at n
    cases j with
    | zero => simp at h1
    | succ j =>
      cases k with
      | zero => simp at h2
      | succ k => have := slots_inj (os := os) (i := i) (j := j) (k := k) n (by simpa using h1) (by simpa using h2); omega
  | .slot m :: os, i, j, k, n, h1, h2 => by
    unfold slotsOf at n
    rw [List.nodup_cons] at n
    cases j with
    | zero =>
      simp at h1; subst h1
      cases k with
      | zero => rfl
      | succ k => exact absurd (slots_mem.mpr ⟨k, by simpa using h2⟩) n.1
    | succ j =>
      cases k with
      | zero => simp at h2; subst h2; exact absurd (slots_mem.mpr ⟨j, by simpa using h1⟩) n.1
      | succ k => have := slots_inj (os := os) (i := i) (j := j) (k := k) n.2 (by simpa using h1) (by simpa using h2); omega
/-- the slots behind the call -/
theorem backA_ok : ∀ {outs : PEnv} {os : List Opd} {k : Nat} {ρ ρ2 : PEnv}, (∀ i ∈ slotsOf os, i < ρ.length) → (slotsOf os).Nodup → backA outs k os ρ = some ρ2 →
    ρ2.length = ρ.length ∧ (∀ i, i ∉ slotsOf os → getS ρ2 i = getS ρ i) ∧ ∀ (i j : Nat), os[j]? = some (Opd.slot i) → ∃ ys, getS outs (k + j) = some (.mo ys) ∧ getS ρ2 i = some (.mo ys)
  | outs, [], k, ρ, ρ2, _, _, e => by cases e; exact ⟨rfl, fun _ _ => rfl, fun i j h => by simp at h⟩
  | outs, .val d :: os, k, ρ, ρ2, hl, n, e => by
    unfold backA at e
    obtain ⟨h1, h2, h3⟩ := backA_ok (k := k + 1) (by simpa [slotsOf] using hl) (by simpa [slotsOf] using n) e
    refine ⟨h1, by simpa [slotsOf] using h2, fun i j h => ?_⟩
    cases j with
    | zero => simp at h
    | succ j => have := h3 i j (by simpa using h); rwa [Nat.add_assoc, Nat.add_comm 1 j] at this
  | outs, .slot m :: os, k, ρ, ρ2, hl, n, e => by
    unfold backA at e
    unfold slotsOf at n
    rw [List.nodup_cons] at n
    split at e
    · rename_i ys hs
      have hm : m < ρ.length := hl m (by simp [slotsOf])
      obtain ⟨h1, h2, h3⟩ := backA_ok (k := k + 1) (fun i hi => by simpa using hl i (by simp [slotsOf, hi])) n.2 e
      refine ⟨by simpa using h1, fun i hi => ?_, fun i j h => ?_⟩
      · have hi' : i ≠ m ∧ i ∉ slotsOf os := by
          simp only [slotsOf, List.mem_cons, not_or] at hi; exact hi
        rw [h2 i hi'.2, getS_set_ne hi'.1]
      · cases j with
        | zero =>
          simp at h; subst h
          exact ⟨ys, hs, by rw [h2 m n.1, getS_set hm, if_pos rfl]⟩
        | succ j => have := h3 i j (by simpa using h); rwa [Nat.add_assoc, Nat.add_comm 1 j] at this
    · cases e
theorem OpdsOk.get : ∀ {vs : List V} {os : List Opd} {j i : Nat}, OpdsOk K F σ vs os → os[j]? = some (Opd.slot i) → ∃ v, vs[j]? = some v ∧ σ[i]? = some (some v)
  | _, _, j, i, .nil, h => by simp at h
  | _, _, 0, i, .cons h r, e => by simp at e; subst e; exact ⟨_, rfl, h⟩
  | _, _, j + 1, i, .cons h r, e => by obtain ⟨v, h1, h2⟩ := r.get (j := j) (by simpa using e); exact ⟨v, by simpa using h1, h2⟩
theorem ArgsOk.length : ∀ {vs : List V} {as : List Slot}, ArgsOk K F H vs as → vs.length = as.length
  | _, _, .nil => rfl
  | _, _, .cons _ r => by simp [r.length]
/-- the state behind a call -/
theorem call_back (o : OK K fm F ρ σ H) {vs : List V} {os : List Opd} {as : List Slot} {r : Slot} {outs ρ2 : PEnv} {v : V} {F' H' : Hp} (hos : OpdsOk K F σ vs os) (ha : argS ρ os = some as) (nd : (slotsOf os).Nodup)
    (hb : backA outs 0 os ρ = some ρ2) (c : CallPost K F H vs as r outs v F' H') : OK K fm F' ρ2 σ H' ∧ SlotRes K fm F' ρ2 σ H' v r := by
  have hl : ∀ i ∈ slotsOf os, i < ρ.length := fun i hi => by
    obtain ⟨j, hj⟩ := slots_mem.mp hi
    obtain ⟨xs, _, h2⟩ := args_own ha hj
    exact (getS_some h2).1
  obtain ⟨L, B1, B2⟩ := backA_ok hl nd hb
  -- an address of ours that is passed
  have own_of : ∀ p, ownAt as vs p → ∃ i j xs, os[j]? = some (Opd.slot i) ∧ getS ρ i = some (.mo xs) ∧ σ[i]? = some (some (.ref p)) := fun p ⟨j, xs, h1, h2⟩ => by
    obtain ⟨i, h3, h4⟩ := args_slot ha h1
    obtain ⟨w, h5, h6⟩ := hos.get h3
    rw [h2] at h5; cases h5
    exact ⟨i, j, xs, h3, h4, h6⟩
  have own_addr : ∀ p, ownAt as vs p → fm.B p = none ∧ F p = none := fun p h => by
    obtain ⟨i, j, xs, _, h2, h3⟩ := own_of p h
    obtain ⟨w, h4, q, ws, rfl, b1, b2, b3, b4⟩ := o.slot i _ h2
    rw [h3] at h4; cases h4
    exact ⟨b1, b2⟩
  have hB : ∀ a u, fm.B a = some u → H' a = some u ∧ F' a = F a := fun a u e =>
    c.kept a u (o.exB a u e) fun h => by rw [(own_addr a h).1] at e; cases e
  -- the slots that are not passed
  have slot_not : ∀ i s, getS ρ i = some s → i ∉ slotsOf os → ∃ w, σ[i]? = some (some w) ∧ SlotOk K fm F' H' w s := fun i s e hi => by
    obtain ⟨w, h1, h2⟩ := o.slot i s e
    refine ⟨w, h1, ?_⟩
    cases s with
    | dat d => exact Rep.mono c.exF h2
    | mo xs =>
      obtain ⟨p, ws, rfl, b1, b2, b3, b4⟩ := h2
      have hn : ¬ ownAt as vs p := fun h => by
        obtain ⟨i2, j, ys, q1, q2, q3⟩ := own_of p h
        have hne : i ≠ i2 := fun z => hi (by rw [z]; exact slots_mem.mpr ⟨j, q1⟩)
        exact o.inj i i2 _ _ hne e q2 (by rw [h1, q3])
      obtain ⟨k1, k2⟩ := c.kept p _ b3 hn
      exact ⟨p, ws, rfl, b1, by rw [k2]; exact b2, k1, b4.mono c.exF⟩
  have slot_yes : ∀ i s, getS ρ2 i = some s → i ∈ slotsOf os → ∃ ys p ws, s = .mo ys ∧ σ[i]? = some (some (.ref p)) ∧ fm.B p = none ∧ F' p = none ∧ H' p = some ws ∧ OwnC K F' ys ws ∧ ∃ xs, getS ρ i = some (.mo xs) := fun i s e hi => by
    obtain ⟨j, hj⟩ := slots_mem.mp hi
    obtain ⟨ys, h1, h2⟩ := B2 i j hj
    rw [e] at h2; cases h2
    obtain ⟨xs, h3, h4⟩ := args_own ha hj
    rw [Nat.zero_add] at h1
    obtain ⟨p, ws, q1, q2, q3, q4⟩ := c.outs j xs ys h3 h1
    obtain ⟨w, q5, q6⟩ := hos.get hj
    rw [q1] at q5; cases q5
    exact ⟨ys, p, ws, rfl, q6, (own_addr p ⟨j, xs, h3, q1⟩).1, q2, q3, q4, xs, h4⟩
  have o' : OK K fm F' ρ2 σ H' := by
    refine ⟨fun a u e => (hB a u e).1, c.exH, fun a h => ?_, L.trans o.len, fun i s e => ?_, fun i j xs ys hij e1 e2 => ?_⟩
    · cases e : fm.B a with
      | none => exact absurd e h
      | some u => rw [(hB a u e).2]; exact o.base a h
    · by_cases hi : i ∈ slotsOf os
      · obtain ⟨ys, p, ws, rfl, q1, q2, q3, q4, q5, _⟩ := slot_yes i s e hi
        exact ⟨_, q1, p, ws, rfl, q2, q3, q4, q5⟩
      · rw [B1 i hi] at e
        exact slot_not i s e hi
    · have was : ∀ i xs, getS ρ2 i = some (.mo xs) → ∃ zs, getS ρ i = some (.mo zs) := fun i xs e => by
        by_cases hi : i ∈ slotsOf os
        · obtain ⟨_, _, _, _, _, _, _, _, _, h⟩ := slot_yes i _ e hi; exact h
        · rw [B1 i hi] at e; exact ⟨xs, e⟩
      obtain ⟨z1, h1⟩ := was i xs e1
      obtain ⟨z2, h2⟩ := was j ys e2
      exact o.inj i j z1 z2 hij h1 h2
  refine ⟨o', ?_⟩
  have res := c.res
  cases r with
  | dat d => exact res
  | mo ys =>
    obtain ⟨p, ws, rfl, q1, q2, q3, q4⟩ := res
    refine ⟨p, ws, rfl, o.exB.fresh q1, q2, q3, q4, fun i zs e z => ?_⟩
    obtain ⟨zs', h1⟩ : ∃ zs', getS ρ i = some (.mo zs') := by
      by_cases hi : i ∈ slotsOf os
      · obtain ⟨_, _, _, _, _, _, _, _, _, h⟩ := slot_yes i _ e hi; exact h
      · rw [B1 i hi] at e; exact ⟨zs, e⟩
    obtain ⟨w, h2, a, vs2, rfl, _, _, b3, _⟩ := o.slot i _ h1
    rw [z] at h2; cases h2
    rw [q1] at b3; cases b3
end
section
variable {X : Cx} {G : Sig} {k : Nat} {x y z : Expr} {es : List Expr} {a b c : Ar} {as : List Ar} {irs : List E} {pos : Pos}
/-- what comes of a call: a value, or a new list of our own -/
def tCallS (K : PySem.W.Frag) (g : PEnv → Out (Slot × PEnv)) : TE := fun σ H Q => ∃ fm F ρ r ρ', OK K fm F ρ σ H ∧ g ρ = .ok (r, ρ') ∧ ∀ v F' H', OK K fm F' ρ' σ H' → Ex F F' → SlotRes K fm F' ρ' σ H' v r → Q v H'
theorem call_ok (w : WX X G k) {f : Str} {p : Pos} (hg : globB X.env.scope f = true) (hs : es.all notStar = true) (hl : as.length = es.length) (ha : PA X es (tArs X.K (opnds G as))) : PE X (.Call (.Name f p) es [] pos) (tCallS X.K (callR (G f) (fun ρ => opnds G as ρ))) := by
  cases hG : G f with
  | none =>
    refine ⟨fun pins s σ H Q I h => ?_⟩
    obtain ⟨fm, F, ρ, r, ρ', o, e, q⟩ := h
    cases e
  | some g =>
    obtain ⟨ad, fd, ps, h1, h2, h3, h4⟩ := w.sig f g hG
    have key : PE X (.Call (.Name f p) es [] pos) (tCall (spOf X.K g) [] E0 (tArs X.K (opnds G as))) := by
      cases es with
      | nil =>
        refine (pe_call0 h4 w.room (globB_ok hg).1 h1 h2 h3 .nil pass0 (globB_ok hg).2).imp fun σ H Q h => ?_
        cases as with
        | nil =>
          obtain ⟨fm, F, ρ, os, ρ', o, e, q⟩ := h
          unfold opnds at e
          cases e
          exact q [] F H o (Ex.refl F) .nil
        | cons a as => simp at hl
      | cons x es =>
        rw [List.all_cons, Bool.and_eq_true] at hs
        exact pe_call h4 w.room (globB_ok hg).1 h1 h2 h3 .nil pass0 ha (globB_ok hg).2 (star_cons hs.1) (noStars es hs.2)
    refine key.imp fun σ H Q h => ?_
    obtain ⟨fm, F, ρ, r, ρ', o, e, q⟩ := h
    unfold callR at e
    obtain ⟨⟨os, ρ1⟩, e1, e2⟩ := Out.bind_inv e
    obtain ⟨ss, e3, e4⟩ := Out.bind_inv e2
    obtain ⟨⟨r1, outs⟩, e5, e6⟩ := Out.bind_inv e4
    have e6 : (if (slotsOf os).Nodup then (Out.of (backA outs 0 os ρ1)).bind fun ρ2 => Out.ok (r1, ρ2) else Out.bad) = Out.ok (r, ρ') := e6
    by_cases nd : (slotsOf os).Nodup
    · rw [if_pos nd] at e6
      obtain ⟨ρ2, e7, e8⟩ := Out.bind_inv e6
      cases e8
      refine ⟨fm, F, ρ, os, ρ1, o, e1, fun vs F1 H1 o1 x1 q1 => ?_⟩
      have e3' := Out.of_ok e3
      refine ⟨F1, ss, r, outs, o1.exF, by rw [List.append_nil]; exact args_ok o1 q1 e3', fun i j xs ys hij c1 c2 => ?_, e5, fun v F2 H2 c => ?_⟩
      · rw [List.append_nil]
        obtain ⟨i1, d1, d2⟩ := args_slot e3' c1
        obtain ⟨i2, d3, d4⟩ := args_slot e3' c2
        obtain ⟨v1, g1, g2⟩ := q1.get d1
        obtain ⟨v2, g3, g4⟩ := q1.get d3
        rw [g1, g3]
        intro z
        have hne : i1 ≠ i2 := fun z2 => hij (slots_inj nd d1 (by rw [z2]; exact d3))
        exact o1.inj i1 i2 _ _ hne d2 d4 (by rw [g2, g4]; cases z; rfl)
      · rw [List.append_nil] at c
        obtain ⟨o2, rr⟩ := call_back o1 q1 e3' nd (Out.of_ok e7) c
        exact q v F2 H2 o2 (x1.trans c.exF) rr
    · rw [if_neg nd] at e6; cases e6
/-- a call's value stands still from now on -/
theorem frz_ok {g : PEnv → Out (Slot × PEnv)} (h : PE X x (tCallS X.K g)) : PE X x (tEv X.K (fun ρ => (g ρ).bind fun r => .ok (r.1.frz, r.2))) := h.imp fun σ H Q h => by
  obtain ⟨fm, F, ρ, d, ρ', o, e, q⟩ := h
  obtain ⟨⟨r1, ρ1⟩, e1, e2⟩ := Out.bind_inv e
  cases e2
  refine ⟨fm, F, ρ, r1, _, o, e1, fun v F2 H2 o2 x2 m => ?_⟩
  cases r1 with
  | dat d => exact q v F2 H2 o2 x2 m
  | mo ys =>
    obtain ⟨p, vs, rfl, b1, b2, b3, b4, b5⟩ := m
    obtain ⟨o3, x3, r3⟩ := o2.freeze b1 b2 b3 b4 b5
    exact q _ _ H2 o3 (x2.trans x3) r3
theorem callD_ok {f : Str} (h : PE X x (tCallS X.K (callR (G f) (fun ρ => opnds G as ρ)))) : PE X x (tEv X.K (ev G (.call f as))) := (frz_ok h).imp fun σ H Q h => by
  obtain ⟨fm, F, ρ, d, ρ', o, e, q⟩ := h
  unfold ev at e
  exact ⟨fm, F, ρ, d, ρ', o, e, q⟩
/-! ### methods, new instances -/
/-- the state behind a call that was given nothing of ours -/
theorem call_new {K : PySem.W.Frag} {fm : Fm} {F H : Hp} {ρ : PEnv} {σ : L2.St} (o : OK K fm F ρ σ H) {vs : List V} {as : List Slot} {r : Slot} {outs : PEnv} {v : V} {F' H' : Hp} (hn : ∀ p, ownAt as vs p → fm.B p = none ∧ ∀ i w, getS ρ i = some (.mo w) → σ[i]? ≠ some (some (.ref p)))
    (c : CallPost K F H vs as r outs v F' H') : OK K fm F' ρ σ H' := by
  have hB : ∀ a u, fm.B a = some u → H' a = some u ∧ F' a = F a := fun a u e =>
    c.kept a u (o.exB a u e) fun h => by rw [(hn a h).1] at e; cases e
  refine ⟨fun a u e => (hB a u e).1, c.exH, fun a h => ?_, o.len, fun i s e => ?_, o.inj⟩
  · cases e : fm.B a with
    | none => exact absurd e h
    | some u => rw [(hB a u e).2]; exact o.base a h
  · obtain ⟨w, h1, h2⟩ := o.slot i s e
    refine ⟨w, h1, ?_⟩
    cases s with
    | dat d => exact Rep.mono c.exF h2
    | mo xs =>
      obtain ⟨p, ws, rfl, b1, b2, b3, b4⟩ := h2
      obtain ⟨k1, k2⟩ := c.kept p _ b3 fun h => (hn p h).2 i xs e h1
      exact ⟨p, ws, rfl, b1, by rw [k2]; exact b2, k1, b4.mono c.exF⟩
theorem OK.not_free {K : PySem.W.Frag} {fm : Fm} {F H : Hp} {ρ : PEnv} {σ : L2.St} (o : OK K fm F ρ σ H) {p : Addr} (hp : H p = none) : ∀ i w, getS ρ i = some (.mo w) → σ[i]? ≠ some (some (.ref p)) := fun i w e z => by
  obtain ⟨v, h1, q, u, rfl, _, _, b3, _⟩ := o.slot i _ e
  rw [z] at h1; cases h1
  rw [hp] at b3; cases b3
theorem args_dat {K : PySem.W.Frag} {F H : Hp} : ∀ {vs : List V} {ds : List D}, RepAll K F vs ds → ArgsOk K F H vs (ds.map .dat)
  | _, _, .nil => .nil
  | _, _, .cons h r => .cons h (args_dat r)
theorem dat_get {ds : List D} {j : Nat} {w : Own} : (ds.map Slot.dat)[j]? ≠ some (.mo w) := fun h => by
  rw [List.getElem?_map] at h
  cases e : ds[j]? with
  | none => rw [e] at h; cases h
  | some d => rw [e] at h; cases h
theorem evs_nil_inv {ρ ρ' : PEnv} {ds : List D} (h : evs G [] ρ = .ok (ds, ρ')) : ds = [] ∧ ρ' = ρ := by unfold evs at h; cases h; exact ⟨rfl, rfl⟩
theorem meth_ht {o : Expr} {m : Str} {apos pos : Pos} {es : List Expr} {env : Env} (hn : notSup o = true) (hl : (apos.endLine == pos.line) = true) (hs : es.all notStar = true) (hz : es.length < 29) :
    eval (.Call (.Attribute o m apos) es [] pos) env = (do
      let ov ← eval o env
      standAt apos.atName
      let (f, first) ← holding [ov] (getMethod ov m (do return (← importBound o env).getD true))
      callWith pos f first (backTo pos (starEach es env)) (backToKw pos (keywordEach [] env))) := by
  have hform : methodCallForm (es.length + ([] : List Keyword).length) (backTo pos (starEach es env)) (backToKw pos (keywordEach [] env)) = true := by
    unfold methodCallForm
    have h1 : (backTo pos (starEach es env)).all (fun x => !x.1) = true := by
      have := noStars (p := pos) (env := env) es hs
      rw [List.all_eq_not_any_not]
      simp only [Bool.not_not]
      simpa using this
    rw [h1]
    simp [keywordEach, backToKw]
    omega
  rw [arm_eval_Call, notSup_base hn]
  unfold methodCall
  rw [hform]
  have hpos : methodCallPos true o env apos pos = pure pos := by unfold methodCallPos; simp [hl]
  rw [hpos]
  rfl
/-- o.m(..) -/
theorem meth_ok (w : WX X G k) {i : E} {m : Str} {apos : Pos} (hn : notSup x = true) (hl : (apos.endLine == pos.line) = true) (hz : es.length < 29) (hs : es.all notStar = true) (hlen : irs.length = es.length) (ho : PE X x (tEv X.K (ev G i))) (ha : PA X es (tEvs X.K (evs G irs))) :
    PE X (.Call (.Attribute x m apos) es [] pos) (tCallS X.K (evo G (.meth i m irs))) := by
  have ht := meth_ht (m := m) (env := X.env) hn hl hs hz
  -- which class it is, is told by the value
  refine ⟨fun pins s σ H Q I h => ?_⟩
  obtain ⟨fm, F, ρ, r, ρ', o, e, q⟩ := h
  have e : ((ev G i ρ).bind fun q => (evs G irs q.2).bind fun r => (methR G q.1 m r.1).bind fun s => Out.ok (s, r.2)) = .ok (r, ρ') := e
  obtain ⟨⟨d0, ρ1⟩, e1, e2⟩ := Out.bind_inv e
  obtain ⟨⟨ds, ρ2⟩, e3, e4⟩ := Out.bind_inv e2
  obtain ⟨s0, e5, e6⟩ := Out.bind_inv e4
  cases e6
  have e5 : methR G d0 m ds = .ok r := e5
  unfold methR at e5
  split at e5
  case h_2 => cases e5
  rename_i c ns xs _e5
  split at e5
  · cases e5
  rename_i hns
  split at e5
  case h_2 => cases e5
  rename_i g hg
  obtain ⟨⟨r1, outs⟩, e7, e8⟩ := Out.bind_inv e5
  cases e8
  obtain ⟨C, a, fd, ps, h1, h2, h3, h4, h5⟩ := w.mth c m g hg
  have key : PE X (.Call (.Attribute x m apos) es [] pos) (tMeth C m (spOf X.K g) [] E0 (tEv X.K (ev G i)) (tEvs X.K (evs G irs))) := by
    cases es with
    | nil =>
      cases irs with
      | cons _ _ => simp at hlen
      | nil =>
        refine (pe_meth0 ho h2 h3 h5 w.room h4 .nil pass0 ht).imp fun σ H Q h => ?_
        obtain ⟨fm, F, ρ, d, ρ', o, e, q⟩ := h
        refine ⟨fm, F, ρ, d, ρ', o, e, fun v F' H' o' x' r' => ?_⟩
        obtain ⟨b, dx, fs, hv, hH, hl', fm2, F2, ρ3, ds, ρ4, o2, e2, q2⟩ := q v F' H' o' x' r'
        obtain ⟨rfl, rfl⟩ := evs_nil_inv e2
        exact ⟨b, dx, fs, hv, hH, hl', q2 [] F2 H' o2 (Ex.refl _) .nil⟩
    | cons e es =>
      rw [List.all_cons, Bool.and_eq_true] at hs
      exact pe_meth ho h2 h3 h5 w.room h4 .nil pass0 ha (star_cons hs.1) (noStars es hs.2) ht
  refine key.run pins s σ H Q I ⟨fm, F, ρ, _, ρ1, o, e1, fun v F1 H1 o1 x1 r0 => ?_⟩
  obtain ⟨b, C', dx, vs, rfl, hH, hc, ra⟩ := RepO.obj o1.exF (.inl r0)
  have hCC : C' = C := by
    have z := hc.at_
    rw [h1] at z
    cases z; rfl
  subst hCC
  refine ⟨b, dx, _, rfl, hH, ?_, fm, F1, ρ1, ds, _, o1, e3, fun us F2 H2 o2 x2 r2 => ?_⟩
  · have : ∀ (ns : List Str) (vs : List V), ¬ ns.contains m = true → (ns.zip vs).lookup m = none := by
      intro ns
      induction ns with
      | nil => intro vs _; rfl
      | cons n ns ih =>
        intro vs hm
        cases vs with
        | nil => rfl
        | cons v vs =>
          rw [List.contains_cons, Bool.or_eq_true, not_or] at hm
          rw [List.zip_cons_cons, List.lookup_cons]
          have : (m == n) = false := by simpa using hm.1
          rw [this]
          exact ih vs hm.2
    exact this _ _ hns
  · show spOf X.K g (V.ref b :: (us ++ [])) H2 Q E0
    rw [List.append_nil]
    have own0 : ∀ p, ¬ ownAt (Slot.dat (.obj c ns xs) :: ds.map .dat) (V.ref b :: us) p := fun p ⟨j, w', z1, z2⟩ => by
      cases j with
      | zero => cases z1
      | succ j => exact (dat_get (w := w') (show (ds.map Slot.dat)[j]? = some (.mo w') from by simpa using z1)).elim
    refine ⟨F2, _, r1, outs, o2.exF, .cons (show ArgOk X.K F2 H2 (.ref b) (.dat (.obj c ns xs)) from r0.mono x2) (args_dat r2), fun i j xs' ys' hij c1 c2 => ?_, e7, fun v F3 H3 cp => ?_⟩
    · exfalso
      cases i with
      | zero => cases c1
      | succ i => exact (dat_get (w := xs') (show (ds.map Slot.dat)[i]? = some (.mo xs') from by simpa using c1)).elim
    · have o3 := call_new o2 (fun p hp => absurd hp (own0 p)) cp
      refine q v F3 H3 o3 (x1.trans (x2.trans cp.exF)) ?_
      have res := cp.res
      cases r1 with
      | dat d => exact res
      | mo ys =>
        obtain ⟨p, ws, rfl, q1, q2, q3, q4⟩ := res
        exact ⟨p, ws, rfl, o2.exB.fresh q1, q2, q3, q4, o2.not_free q1⟩
theorem methD_ok {i : E} {m : Str} (h : PE X x (tCallS X.K (evo G (.meth i m irs)))) : PE X x (tEv X.K (ev G (.meth i m irs))) := (frz_ok h).imp fun σ H Q h => by
  obtain ⟨fm, F, ρ, d, ρ', o, e, q⟩ := h
  refine ⟨fm, F, ρ, d, ρ', o, ?_, q⟩
  unfold ev at e
  obtain ⟨⟨d0, ρ1⟩, e1, e2⟩ := Out.bind_inv e
  obtain ⟨⟨ds, ρ2⟩, e3, e4⟩ := Out.bind_inv e2
  obtain ⟨s0, e5, e6⟩ := Out.bind_inv e4
  cases e6
  show (((ev G i ρ).bind fun q => (evs G irs q.2).bind fun r => (methR G q.1 m r.1).bind fun s => Out.ok (s, r.2)).bind fun r => Out.ok (r.1.frz, r.2)) = _
  rw [e1]
  show (((evs G irs ρ1).bind fun r => (methR G d0 m r.1).bind fun s => Out.ok (s, r.2)).bind fun r => Out.ok (r.1.frz, r.2)) = _
  rw [e3]
  show (((methR G d0 m ds).bind fun s => Out.ok (s, ρ2)).bind fun r => Out.ok (r.1.frz, r.2)) = _
  have e5 : methR G d0 m ds = .ok s0 := e5
  rw [e5]
  rfl
/-- C(..) -/
theorem make_ok (w : WX X G k) {c : Str} {p : Pos} (hg : globB X.env.scope c = true) (hs : es.all notStar = true) (hlen : irs.length = es.length) (ha : PA X es (tEvs X.K (evs G irs))) :
    PE X (.Call (.Name c p) es [] pos) (tEv X.K (ev G (.make c irs))) := by
  cases hG : G.ini c with
  | none =>
    refine ⟨fun pins s σ H Q I h => ?_⟩
    obtain ⟨fm, F, ρ, r, ρ', o, e, q⟩ := h
    unfold ev at e
    obtain ⟨⟨ds, ρ2⟩, e3, e4⟩ := Out.bind_inv e
    obtain ⟨s0, e5, e6⟩ := Out.bind_inv e4
    unfold makeR at e5
    rw [hG] at e5
    cases e5
  | some g =>
    obtain ⟨C, a, fd, ps, j, rfl, h1, h2, h3, h4, h5, _⟩ := w.ini c g hG
    have key : PE X (.Call (.Name c p) es [] pos) (tMake C (spOf X.K g) [] E0 (tEvs X.K (evs G irs))) := by
      cases es with
      | nil =>
        cases irs with
        | cons _ _ => simp at hlen
        | nil =>
          refine (pe_make0 h3 h5 w.room (globB_ok hg).1 h1 h4 .nil pass0 (globB_ok hg).2).imp fun σ H Q h => ?_
          obtain ⟨fm, F, ρ, d, ρ', o, e, q⟩ := h
          obtain ⟨rfl, rfl⟩ := evs_nil_inv e
          exact q [] F H o (Ex.refl _) .nil
      | cons e es =>
        rw [List.all_cons, Bool.and_eq_true] at hs
        exact pe_make h3 h5 w.room (globB_ok hg).1 h1 h4 .nil pass0 ha (globB_ok hg).2 (star_cons hs.1) (noStars es hs.2)
    refine key.imp fun σ H Q h => ?_
    obtain ⟨fm, F, ρ, d, ρ', o, e, q⟩ := h
    unfold ev at e
    obtain ⟨⟨ds, ρ2⟩, e3, e4⟩ := Out.bind_inv e
    obtain ⟨d1, e5, e6⟩ := Out.bind_inv e4
    cases e6
    unfold makeR at e5
    rw [hG] at e5
    obtain ⟨⟨r1, outs⟩, e7, e8⟩ := Out.bind_inv e5
    split at e8
    case h_2 => cases e8
    rename_i c' ns xs heq hout
    have hr1 : r1 = .dat .non := heq
    subst hr1
    split at e8
    case isFalse => cases e8
    rename_i hcc
    subst hcc
    cases e8
    refine ⟨fm, F, ρ, ds, _, o, e3, fun us F1 H1 o1 x1 r1 => fun x dx hx hdx hne => ?_⟩
    rw [List.append_nil]
    have o2 := o1.newH (x := HO.own x) hdx
    have hx2 : upd H1 dx (.own x) x = none := by rw [upd_ne (Ne.symm hne)]; exact hx
    have o3 := o2.newH (x := HO.ins C dx []) hx2
    have hFx : F1 x = none := o1.exF.fresh hx
    have own0 : ∀ p, ownAt (Slot.mo (.ins c' [] []) :: ds.map .dat) (V.ref x :: us) p → p = x := fun p ⟨j, w', z1, z2⟩ => by
      cases j with
      | zero => simp at z2; exact z2.symm
      | succ j => exact (dat_get (w := w') (show (ds.map Slot.dat)[j]? = some (.mo w') from by simpa using z1)).elim
    refine ⟨F1, _, _, outs, o3.exF, .cons (show ArgOk X.K F1 _ (V.ref x) (.mo (.ins c' [] [])) from ⟨x, _, rfl, hFx, upd_same, C, dx, [], rfl, ⟨h2, fun z => absurd rfl z, fun f hf => by cases hf⟩, rfl, .nil⟩) (args_dat r1), fun i j xs' ys' hij c1 c2 => ?_, e7, fun v F3 H3 cp => ?_⟩
    · exfalso
      cases i with
      | zero =>
        cases j with
        | zero => exact hij rfl
        | succ j => exact (dat_get (w := ys') (show (ds.map Slot.dat)[j]? = some (.mo ys') from by simpa using c2)).elim
      | succ i => exact (dat_get (w := xs') (show (ds.map Slot.dat)[i]? = some (.mo xs') from by simpa using c1)).elim
    · have free : ∀ i w, getS _ i = some (.mo w) → σ[i]? ≠ some (some (.ref x)) := o1.not_free hx
      have o4 := call_new o3 (fun p hp => by rw [own0 p hp]; exact ⟨o1.exB.fresh hx, free⟩) cp
      have hv : v = .non := by
        have z : Rep X.K F3 v .non := cp.res
        cases z; rfl
      refine ⟨hv, ?_⟩
      obtain ⟨p2, u, z1, z2, z3, z4⟩ := cp.outs 0 _ _ rfl hout
      simp at z1
      subst z1
      obtain ⟨o5, x5, r5⟩ := o4.freeze (o1.exB.fresh hx) z2 z3 z4 free
      exact q _ _ H3 o5 (x1.trans (cp.exF.trans x5)) r5
/-- isinstance(o, C) of an instance of C -/
theorem isc_ok (w : WX X G k) {i : E} {c : Str} {p p2 : Pos} (hg : globB X.env.scope "isinstance" = true) (hg2 : globB X.env.scope c = true) (hs : notStar x = true) (ha : PE X x (tEv X.K (ev G i))) :
    PE X (.Call (.Name "isinstance" p) [x, .Name c p2] [] pos) (tEv X.K (ev G (.isc i c))) := by
  cases hG : G.ini c with
  | none =>
    refine ⟨fun pins s σ H Q I h => ?_⟩
    obtain ⟨fm, F, ρ, r, ρ', o, e, q⟩ := h
    unfold ev at e
    obtain ⟨⟨d1, ρ2⟩, e3, e4⟩ := Out.bind_inv e
    cases d1 <;> try (cases e4; done)
    simp [hG] at e4
  | some g =>
    obtain ⟨C, a, fd, ps, j, rfl, h1, h2, h3, h4, h5, h6⟩ := w.ini c g hG
    have ht : PE X (.Name c p2) (tC (.ref C)) := pe_glob (globB_ok hg2).1 h1 rfl (globB_ok hg2).2
    refine (pe_callB call_isi (globB_ok hg).1 (w.blt _ (by decide)) boot_isinstance (pa_cons ha (pa_cons ht pa_nil) (star_cons hs)) (by decide) (by decide) (star_cons hs) (by rfl)).imp fun σ H Q h => ?_
    obtain ⟨fm, F, ρ, d, ρ', o, e, q⟩ := h
    unfold ev at e
    obtain ⟨⟨d1, ρ2⟩, e1, e2⟩ := Out.bind_inv e
    cases d1 <;> try (cases e2; done)
    rename_i c' ns xs
    have e2 : (if c' = c ∧ (G.ini c).isSome = true then Out.ok (D.bl true, ρ2) else .bad) = .ok (d, ρ') := e2
    by_cases hc : c' = c ∧ (G.ini c).isSome = true
    case neg => rw [if_neg hc] at e2; cases e2
    rw [if_pos hc] at e2
    cases e2
    obtain ⟨rfl, _⟩ := hc
    refine ⟨fm, F, ρ, _, _, o, e1, fun v F1 H1 o1 x1 r1 => ?_⟩
    obtain ⟨b, C', dx, vs, rfl, hH, hcn, ra⟩ := RepO.obj o1.exF (.inl r1)
    have hCC : C' = C := by
      have z := hcn.at_
      rw [h2] at z
      cases z; rfl
    subst hCC
    exact ⟨.ref b, .ref C', _, _, _, rfl, .own _, .base (.ins hH h6.cl h6.ha h6.hn h6.htk h6.hm), h6.kit, q _ F1 H1 o1 x1 (.bl _)⟩
end
end Px
set_option Elab.async false
set_option linter.all false
set_option maxRecDepth 100000
set_option maxHeartbeats 2000000
namespace Px
open PySem PySem.Spec PyProof.Rows L2
/-! ### what is walked -/
def Feed (K : PySem.W.Frag) (J : It) (ik : IK) (σ1 : L2.St) (ρ1 : PEnv) (items : List D) (F1 : Hp) : Prop := ∀ fm' F' ρ' σ' H', OK K fm' F' ρ' σ' H' → Ex F1 F' → (∀ i, ik = .brw i → getS ρ' i = getS ρ1 i ∧ σ'[i]? = σ1[i]?) →
  (∀ (n : Nat) (d : D), items[n]? = some d → J.go n H' ∧ ∀ x H2, J.yld n H' x H2 → H2 = H' ∧ Rep K F' x d) ∧ (∀ n : Nat, items.length ≤ n → J.stop n H')
def tIt (K : PySem.W.Frag) (ik : IK) (g : PEnv → Out (List D × PEnv)) : TI := fun σ H R => ∃ fm F ρ ds ρ1 items, OK K fm F ρ σ H ∧ g ρ = .ok (ds, ρ1) ∧ itemsOf ρ1 ik ds = some items ∧
  ∀ J F1 H1, OK K fm F1 ρ1 σ H1 → Ex F F1 → Feed K J ik σ ρ1 items F1 → R J H1
section
variable {X : Cx} {G : Sig} {k : Nat} {x y z tg : Expr} {es : List Expr} {a b c : Ar} {as : List Ar} {irs : List E} {pos : Pos}
theorem _root_.L2.PI.imp {t t' : TI} (h : PI X tg x t) (q : ∀ σ H R, t' σ H R → t σ H R) : PI X tg x t' := ⟨fun pins s σ H R I w => h.run pins s σ H R I (q σ H R w)⟩
theorem PI.orr {t u : TI} (h : PI X tg x t) (h' : PI X tg x u) : PI X tg x (fun σ H R => t σ H R ∨ u σ H R) := ⟨fun pins s σ H R I w => w.elim (h.run pins s σ H R I) (h'.run pins s σ H R I)⟩
theorem feed_tup {K : PySem.W.Frag} {ik : IK} {σ1 : L2.St} {ρ1 : PEnv} {F1 : Hp} {p : Addr} {vs : List V} {xs : List D} (h : SqT K F1 p vs) (r : RepAll K F1 vs xs) (u : ∀ H ys, SqT K H p vs → SqT K H p ys → True) : Feed K (Itt K p) ik σ1 ρ1 xs F1 := fun fm' F' ρ' σ' H' o e _ => by
  have h' : SqT K H' p vs := o.exF.sqT (e.sqT h)
  refine ⟨fun n d hd => ?_, fun n hn => ⟨vs, h', by rw [r.length]; exact hn⟩⟩
  obtain ⟨v, hv, rv⟩ := r.get' hd
  refine ⟨⟨vs, v, h', hv⟩, fun x H2 y => ?_⟩
  obtain ⟨e1, e2⟩ := y
  have := e2 vs h'
  rw [hv] at this; cases this
  exact ⟨e1, rv.mono e⟩
theorem feed_lst {K : PySem.W.Frag} {ik : IK} {σ1 : L2.St} {ρ1 : PEnv} {F1 : Hp} {p : Addr} {vs : List V} {xs : List D} (h : SqL K F1 p vs) (r : RepAll K F1 vs xs) : Feed K (Itl K p) ik σ1 ρ1 xs F1 := fun fm' F' ρ' σ' H' o e _ => by
  have h' : SqL K H' p vs := o.exF.sqL (e.sqL h)
  refine ⟨fun n d hd => ?_, fun n hn => ⟨vs, h', by rw [r.length]; exact hn⟩⟩
  obtain ⟨v, hv, rv⟩ := r.get' hd
  refine ⟨⟨vs, v, h', hv⟩, fun x H2 y => ?_⟩
  obtain ⟨e1, e2⟩ := y
  have := e2 vs h'
  rw [hv] at this; cases this
  exact ⟨e1, rv.mono e⟩
theorem feed_rng {K : PySem.W.Frag} {ik : IK} {σ1 : L2.St} {ρ1 : PEnv} {F1 : Hp} (lo hi : Int) : Feed K (Itr lo (hi - lo).toNat) ik σ1 ρ1 (rngItems lo hi) F1 := fun fm' F' ρ' σ' H' o e _ => by
  unfold rngItems
  refine ⟨fun n d hd => ?_, fun n hn => by rw [List.length_map, List.length_range] at hn; exact hn⟩
  rw [List.getElem?_map] at hd
  cases c : (List.range (hi - lo).toNat)[n]? with
  | none => rw [c] at hd; cases hd
  | some m =>
    rw [c] at hd; cases hd
    obtain ⟨h1, h2⟩ := List.getElem?_eq_some_iff.mp c
    rw [List.length_range] at h1
    rw [List.getElem_range] at h2
    subst h2
    refine ⟨h1, fun x H2 y => ?_⟩
    obtain ⟨e1, e2⟩ := y
    subst e2
    exact ⟨e1, .int _⟩
theorem seq_ok {i : E} (h : PE X x (tEv X.K (ev G i))) : PI X tg x (tIt X.K .seq (evs G [i])) :=
  (PI.orr (pi_list (tg := tg) h) (pi_tup (tg := tg) h)).imp fun σ H R h => by
    obtain ⟨fm, F, ρ, ds, ρ1, items, o, e, ei, q⟩ := h
    unfold evs at e
    obtain ⟨⟨d, ρ2⟩, e1, e2⟩ := Out.bind_inv e
    obtain ⟨⟨r1, ρ3⟩, e3, e4⟩ := Out.bind_inv e2
    cases e4
    unfold evs at e3
    cases e3
    unfold itemsOf seqOf at ei
    cases d <;> try (simp at ei; done)
    · cases ei
      refine .inr ⟨fm, F, ρ, _, _, o, e1, fun v F1 H1 o1 x1 r1 => ?_⟩
      cases r1 with
      | tup h1 h2 => exact ⟨_, rfl, ⟨_, o1.exF.sqT h1.sqT⟩, q _ F1 H1 o1 x1 (feed_tup h1.sqT h2 fun _ _ _ _ => trivial)⟩
    · cases ei
      refine .inl ⟨fm, F, ρ, _, _, o, e1, fun v F1 H1 o1 x1 r1 => ?_⟩
      cases r1 with
      | lst h1 h2 => exact ⟨_, rfl, ⟨_, o1.exF.sqL h1⟩, q _ F1 H1 o1 x1 (feed_lst h1 h2)⟩
theorem feed_revT {K : PySem.W.Frag} {ik : IK} {σ1 : L2.St} {ρ1 : PEnv} {F1 : Hp} {p : Addr} {vs : List V} {xs : List D} (h : SqT K F1 p vs) (r : RepAll K F1 vs xs) : Feed K (RT.ItvT K p vs.length) ik σ1 ρ1 xs.reverse F1 := fun fm' F' ρ' σ' H' o e _ => by
  have h' : SqT K H' p vs := o.exF.sqT (e.sqT h)
  refine ⟨fun n d hd => ?_, fun n hn => by rw [List.length_reverse] at hn; rw [← r.length] at hn; exact hn⟩
  have hn : n < xs.length := by have := (List.getElem?_eq_some_iff.mp hd).1; simpa using this
  rw [List.getElem?_reverse hn] at hd
  obtain ⟨v, hv, rv⟩ := r.get' hd
  rw [← r.length] at hv
  refine ⟨⟨by rw [r.length]; exact hn, vs, v, h', hv⟩, fun x H2 y => ?_⟩
  obtain ⟨e1, e2⟩ := y
  have := e2 vs h'
  rw [hv] at this; cases this
  exact ⟨e1, rv.mono e⟩
theorem feed_revL {K : PySem.W.Frag} {ik : IK} {σ1 : L2.St} {ρ1 : PEnv} {F1 : Hp} {p : Addr} {vs : List V} {xs : List D} (h : SqL K F1 p vs) (r : RepAll K F1 vs xs) : Feed K (Itv K p vs.length) ik σ1 ρ1 xs.reverse F1 := fun fm' F' ρ' σ' H' o e _ => by
  have h' : SqL K H' p vs := o.exF.sqL (e.sqL h)
  refine ⟨fun n d hd => ?_, fun n hn => by rw [List.length_reverse] at hn; rw [← r.length] at hn; exact hn⟩
  have hn : n < xs.length := by have := (List.getElem?_eq_some_iff.mp hd).1; simpa using this
  rw [List.getElem?_reverse hn] at hd
  obtain ⟨v, hv, rv⟩ := r.get' hd
  rw [← r.length] at hv
  refine ⟨⟨by rw [r.length]; exact hn, vs, v, h', hv⟩, fun x H2 y => ?_⟩
  obtain ⟨e1, e2⟩ := y
  have := e2 vs h'
  rw [hv] at this; cases this
  exact ⟨e1, rv.mono e⟩
/-- for x in reversed(e) -/
theorem rev_ok (w : WX X G k) {i : E} {p : Pos} (hg : globB X.env.scope "reversed" = true) (hs : notStar x = true) (h : PE X x (tEv X.K (ev G i))) : PI X tg (.Call (.Name "reversed" p) [x] [] pos) (tIt X.K .rev (evs G [i])) :=
  (RT.pi_revA (tg := tg) (globB_ok hg).1 (w.blt _ (by decide)) h (star_cons hs)).imp fun σ H R h => by
    obtain ⟨fm, F, ρ, ds, ρ1, items, o, e, ei, q⟩ := h
    unfold evs at e
    obtain ⟨⟨d, ρ2⟩, e1, e2⟩ := Out.bind_inv e
    obtain ⟨⟨r1, ρ3⟩, e3, e4⟩ := Out.bind_inv e2
    cases e4
    unfold evs at e3
    cases e3
    unfold itemsOf seqOf at ei
    cases d <;> try (simp at ei; done)
    · cases ei
      refine ⟨fm, F, ρ, _, _, o, e1, fun v F1 H1 o1 x1 r1 => ?_⟩
      cases r1 with
      | tup h1 h2 => exact ⟨_, _, rfl, .inr ⟨o1.exF.sqT h1.sqT, q _ F1 H1 o1 x1 (feed_revT h1.sqT h2)⟩⟩
    · cases ei
      refine ⟨fm, F, ρ, _, _, o, e1, fun v F1 H1 o1 x1 r1 => ?_⟩
      cases r1 with
      | lst h1 h2 => exact ⟨_, _, rfl, .inl ⟨o1.exF.sqL h1, q _ F1 H1 o1 x1 (feed_revL h1 h2)⟩⟩
/-! for x in dict(pairs) -/
def rDictP (K : PySem.W.Frag) : List V → Hp → VK → Prop := fun xs H Q => ∃ (a : Addr) (ps : List Addr) (kvs : List (Key × V)), xs = [.ref a] ∧ SqL K H a (ps.map V.ref) ∧ Paired (fun p kv => SqT K H p [kV kv.1, kv.2]) ps kvs ∧
    ∀ p, H p = none → Q (.ref p) (L2.upd H p (.dK (mergeK [] kvs)))
theorem pi_dictK {t : TA} {p : Pos} (w : WX X G k) (hg : globB X.env.scope "dict" = true) (ha : PA X [x] t) (hs : notStar x = true) : PI X tg (.Call (.Name "dict" p) [x] [] pos) (fun σ H R => t σ H fun xs H1 => rDictP X.K xs H1 fun v H2 => ∃ H0 p kvs, v = .ref p ∧ H2 = L2.upd H0 p (.dK kvs) ∧ ∀ o, R (Itk p o kvs) (L2.upd H0 p (.frz o (.dK kvs)))) := by
  have he := pe_callTy (X := X) (p := p) (pos := pos) (call_dictP w.calm) (globB_ok hg).1 (w.blt _ (by decide)) (by rfl) ha (he := star_cons hs) (hpl := by rfl)
  refine ⟨fun pins s σ H R I h => ?_⟩
  refine thn (he.run pins s σ H (fun v H2 => ∃ H0 p kvs, v = .ref p ∧ H2 = L2.upd H0 p (.dK kvs) ∧ ∀ o, R (Itk p o kvs) (L2.upd H0 p (.frz o (.dK kvs)))) I ?_) fun u s1 ⟨x, H1, I1, rx, H0, d, kvs, ex, eh, q⟩ => ?_
  · exact h
  · subst ex eh
    obtain rfl : u = Value.ref d := rx
    obtain ⟨o, I2⟩ := I1.lock (d := d) (u := .dK kvs) upd_same trivial
    rw [upd_upd] at I2
    obtain ⟨hs, hgd, hx, es, ep, vs, hdt, hsz, kv, hm⟩ := I2.frzK upd_same
    refine iter_keys hs hgd hx hdt (pi_one (tk := s1.toks) I2 _ (turn_keys _ hdt) ⟨_, Heap.get?_push_size _ rfl, rfl, ?_⟩ (q o))
    rw [hsz] <;> rfl
theorem keys_put {k : Int} {v : V} {acc : List (Key × V)} {a : List Int} (h : acc.map Prod.fst = a.map Sum.inl) : (putK acc (Sum.inl k) v).map Prod.fst = (if a.contains k then a else a ++ [k]).map Sum.inl := by
  have e : (acc.any fun kv => decide (kv.1 = (Sum.inl k : Key))) = a.contains k := by
    have : (acc.any fun kv => decide (kv.1 = (Sum.inl k : Key))) = (acc.map Prod.fst).any fun x => decide (x = (Sum.inl k : Key)) := by rw [List.any_map]; rfl
    rw [this, h, List.any_map, List.contains_eq_any_beq]
    congr 1
    funext x
    by_cases c : x = k
    · subst c; simp
    · have c' : ¬ k = x := fun z => c z.symm
      simp [c, c']
  unfold putK
  rw [e]
  split
  · rw [List.map_map]
    have : (Prod.fst ∘ fun kv : Key × V => if kv.1 = Sum.inl k then (kv.1, v) else kv) = Prod.fst := by
      funext kv
      show (if kv.1 = Sum.inl k then (kv.1, v) else kv).1 = kv.1
      split <;> rfl
    rw [this, h]
  · rw [List.map_append, List.map_append, h]; rfl
theorem keys_merge : ∀ {kvs : List (Key × V)} {ks : List Int} {acc : List (Key × V)} {a : List Int}, kvs.map Prod.fst = ks.map Sum.inl → acc.map Prod.fst = a.map Sum.inl → (mergeK acc kvs).map Prod.fst = (ks.foldl (fun acc k => if acc.contains k then acc else acc ++ [k]) a).map Sum.inl
  | [], [], _, _, _, h => h
  | [], _ :: _, _, _, h, _ => by cases h
  | _ :: _, [], _, _, h, _ => by cases h
  | (k0, v) :: kvs, k :: ks, acc, a, h, h2 => by
    rw [List.map_cons, List.map_cons] at h
    injection h with h3 h4
    have h3 : k0 = Sum.inl k := h3
    subst h3
    show (mergeK (putK acc (Sum.inl k) v) kvs).map Prod.fst = _
    rw [List.foldl_cons]
    exact keys_merge h4 (keys_put h2)
theorem pairs_get {K : PySem.W.Frag} {F H : Hp} (ex : Ex F H) : ∀ {ps : List D} {ks : List Int} {ws : List V}, keysI ps = some ks → RepAll K F ws ps → ∃ qs kvs, ws = qs.map V.ref ∧ Paired (fun p (kv : Key × V) => SqT K H p [kV kv.1, kv.2]) qs kvs ∧ kvs.map Prod.fst = ks.map (Sum.inl : Int → Key)
  | [], ks, ws, h, r => by
    cases h
    cases r
    exact ⟨[], [], rfl, .nil, rfl⟩
  | p :: ps, ks, ws, h, r => by
    unfold keysI at h
    split at h
    · rename_i hh; cases hh
    · rename_i k d r' hh
      cases hh
      rw [Option.map_eq_some_iff] at h
      obtain ⟨ks', h1, rfl⟩ := h
      cases r with
      | cons ra rt =>
        obtain ⟨qs, kvs, e1, e2, e3⟩ := pairs_get ex h1 rt
        cases ra with
        | tup t1 t2 =>
          cases t2 with
          | cons u1 u2 =>
            cases u2 with
            | cons u2 u3 =>
              cases u3
              cases u1
              rename_i q v
              exact ⟨_ :: qs, (Sum.inl k, v) :: kvs, by rw [e1]; rfl, .cons (ex.sqT t1.sqT) e2, by simp [e3]⟩
    · cases h
/-- for x in dict(e), e a list of pairs -/
theorem dk_ok {irs : List E} (w : WX X G k) {p : Pos} (hg : globB X.env.scope "dict" = true) (hs : notStar x = true) (h : PA X [x] (tEvs X.K (evs G irs))) : PI X tg (.Call (.Name "dict" p) [x] [] pos) (tIt X.K .dk (evs G irs)) :=
  (pi_dictK w hg h hs).imp fun σ H R h => by
    obtain ⟨fm, F, ρ, ds, ρ1, items, o, e, ei, q⟩ := h
    refine ⟨fm, F, ρ, ds, ρ1, o, e, fun vs F1 H1 o1 x1 r1 => ?_⟩
    unfold itemsOf at ei
    split at ei
    · rename_i c; cases c
    · rename_i c; cases c
    · rename_i c; cases c
    · rename_i ps c
      rw [Option.map_eq_some_iff] at ei
      obtain ⟨ks, hk, rfl⟩ := ei
      cases r1 with
      | cons ra rt =>
        cases rt
        obtain ⟨a, ws, rfl, ha, rb⟩ := RepO.lst o1.exF (.inl ra)
        obtain ⟨qs, kvs, rfl, hp, hkeys⟩ := pairs_get o1.exF hk rb
        refine ⟨a, qs, kvs, rfl, ha, hp, fun p hn => ⟨H1, p, mergeK [] kvs, rfl, rfl, fun ob => ?_⟩⟩
        obtain ⟨o2, x2⟩ := o1.frozen (x := .frz ob (.dK (mergeK [] kvs))) hn
        refine q _ _ _ o2 (x1.trans x2) ?_
        have hm : (mergeK [] kvs).map Prod.fst = (nubI ks).map (Sum.inl : Int → Key) := keys_merge hkeys rfl
        intro fm' F' ρ' σ' H' o' e' _
        have hH : H' p = some (.frz ob (.dK (mergeK [] kvs))) := o'.exF _ _ (e' _ _ upd_same)
        have hl : (mergeK [] kvs).length = (nubI ks).length := by have := congrArg List.length hm; simpa using this
        refine ⟨fun n d hd => ?_, fun n hn => ⟨hH, by rw [hl]; simpa using hn⟩⟩
        rw [List.getElem?_map, Option.map_eq_some_iff] at hd
        obtain ⟨j, hj, rfl⟩ := hd
        have h2 : ((mergeK [] kvs).map Prod.fst)[n]? = some (Sum.inl j) := by rw [hm, List.getElem?_map, hj]; rfl
        rw [List.getElem?_map, Option.map_eq_some_iff] at h2
        obtain ⟨⟨k', v⟩, h3, h4⟩ := h2
        have h4 : k' = Sum.inl j := h4
        subst h4
        refine ⟨⟨hH, (List.getElem?_eq_some_iff.mp h3).1⟩, fun x H2 y => ?_⟩
        obtain ⟨y1, k2, v2, y2, y3⟩ := y
        rw [h3] at y2
        cases y2
        subst y3
        exact ⟨y1, .int _⟩
    · rename_i c; cases c
    · cases ei
theorem brw_ok {i : Nat} {n : Str} (h : varB X.N X.env.scope i n = true) : PI X tg (.Name n pos) (tIt X.K (.brw i) (evs G [])) :=
  (pi_list (tg := tg) (varB_ok h)).imp fun σ H R h => by
    obtain ⟨fm, F, ρ, ds, ρ1, items, o, e, ei, q⟩ := h
    unfold evs at e
    cases e
    have ei : (match getS ρ i with
      | some (.mo (.lst xs)) => some xs
      | _ => none) = some items := ei
    split at ei
    · rename_i xs hs
      cases ei
      obtain ⟨v, h1, p, _, rfl, b1, b2, b3, vs, rfl, b4⟩ := o.slot _ _ hs
      refine ⟨_, h1, p, rfl, ⟨vs, SqL.of b3⟩, q _ F H o (Ex.refl F) ?_⟩
      intro fm' F' ρ' σ' H' o' e' hb
      obtain ⟨g1, g2⟩ := hb _ rfl
      obtain ⟨v', h1', p', _, rfl, c1, c2, c3, vs', rfl, c4⟩ := o'.slot _ _ (g1.trans hs)
      rw [g2, h1] at h1'
      cases h1'
      have h' : SqL X.K H' p vs' := SqL.of c3
      refine ⟨fun n d hd => ?_, fun n hn => ⟨vs', h', by rw [c4.length]; exact hn⟩⟩
      obtain ⟨v, hv, rv⟩ := c4.get' hd
      refine ⟨⟨vs', v, h', hv⟩, fun x H2 y => ?_⟩
      obtain ⟨e1, e2⟩ := y
      have := e2 vs' h'
      rw [hv] at this; cases this
      exact ⟨e1, rv⟩
    · cases ei
theorem okRng_ok {i : Int} (h : okRng i = true) : -(2 ^ 62) ≤ i ∧ i < 2 ^ 62 := by
  unfold okRng at h
  simp only [Bool.and_eq_true, decide_eq_true_eq] at h
  exact h
theorem RepAll.one_inv {K : PySem.W.Frag} {F : Hp} {vs : List V} {i : Int} (h : RepAll K F vs [.int i]) : vs = [.int i] := by
  cases h with | cons h r => cases r; cases h; rfl
theorem RepAll.two_inv {K : PySem.W.Frag} {F : Hp} {vs : List V} {i j : Int} (h : RepAll K F vs [.int i, .int j]) : vs = [.int i, .int j] := by
  cases h with | cons h r => cases r with | cons h2 r => cases r; cases h; cases h2; rfl
theorem rng1_ok (w : WX X G k) {p : Pos} (hg : globB X.env.scope "range" = true) (hs : notStar x = true) (h : PA X [x] (tEvs X.K (evs G irs))) (hl : irs.length = 1) : PI X tg (.Call (.Name "range" p) [x] [] pos) (tIt X.K .rng (evs G irs)) :=
  (pi_range1 (globB_ok hg).1 (w.blt _ (by decide)) h (star_cons hs)).imp fun σ H R h => by
    obtain ⟨fm, F, ρ, ds, ρ1, items, o, e, ei, q⟩ := h
    unfold itemsOf rngOf at ei
    refine ⟨fm, F, ρ, ds, ρ1, o, e, fun vs F1 H1 o1 x1 r1 => ?_⟩
    simp only at ei
    split at ei
    · split at ei
      · rename_i hi hr
        cases ei
        obtain rfl := r1.one_inv
        obtain ⟨b1, b2⟩ := okRng_ok hr
        refine ⟨_, rfl, b1, b2, ?_⟩
        have f := feed_rng (K := X.K) (ik := .rng) (σ1 := σ) (ρ1 := ρ1) (F1 := F1) 0 hi
        rw [Int.sub_zero] at f
        exact q _ F1 H1 o1 x1 f
      · cases ei
    · exfalso
      have := r1.length
      have hz : irs.length = 2 := evs_len e
      omega
    · cases ei
where evs_len {i j : Int} {G : Sig} : ∀ {irs : List E} {ρ ρ1 : PEnv}, evs G irs ρ = .ok ([.int i, .int j], ρ1) → irs.length = 2
  | irs, ρ, ρ1, e => by
    have gen : ∀ (irs : List E) (ρ ρ1 : PEnv) (ds : List D), evs G irs ρ = .ok (ds, ρ1) → ds.length = irs.length := by
      intro irs
      induction irs with
      | nil => intro ρ ρ1 ds e; unfold evs at e; cases e; rfl
      | cons i r ih =>
        intro ρ ρ1 ds e
        unfold evs at e
        obtain ⟨⟨d, ρ2⟩, e1, e2⟩ := Out.bind_inv e
        obtain ⟨⟨r1, ρ3⟩, e3, e4⟩ := Out.bind_inv e2
        cases e4
        simp [ih _ _ _ e3]
    have := gen irs ρ ρ1 _ e
    simpa using this.symm
theorem evs_length {irs : List E} : ∀ {ρ ρ1 : PEnv} {ds : List D}, evs G irs ρ = .ok (ds, ρ1) → ds.length = irs.length := by
  induction irs with
  | nil => intro ρ ρ1 ds e; unfold evs at e; cases e; rfl
  | cons i r ih =>
    intro ρ ρ1 ds e
    unfold evs at e
    obtain ⟨⟨d, ρ2⟩, e1, e2⟩ := Out.bind_inv e
    obtain ⟨⟨r1, ρ3⟩, e3, e4⟩ := Out.bind_inv e2
    cases e4
    simp [ih e3]
theorem rng2_ok (w : WX X G k) {p : Pos} (hg : globB X.env.scope "range" = true) (hs : notStar x = true) (hs2 : notStar y = true) (h : PA X [x, y] (tEvs X.K (evs G irs))) (hl : irs.length = 2) : PI X tg (.Call (.Name "range" p) [x, y] [] pos) (tIt X.K .rng (evs G irs)) :=
  (pi_range2 (globB_ok hg).1 (w.blt _ (by decide)) h (by rw [star_cons hs, star_cons hs2]; rfl) (star_cons hs2)).imp fun σ H R h => by
    obtain ⟨fm, F, ρ, ds, ρ1, items, o, e, ei, q⟩ := h
    unfold itemsOf rngOf at ei
    refine ⟨fm, F, ρ, ds, ρ1, o, e, fun vs F1 H1 o1 x1 r1 => ?_⟩
    have hz := evs_length e
    simp only at ei
    split at ei
    · exfalso
      simp at hz; omega
    · split at ei
      · rename_i lo hi hr
        cases ei
        obtain rfl := r1.two_inv
        rw [Bool.and_eq_true] at hr
        obtain ⟨b1, b2⟩ := okRng_ok hr.1
        obtain ⟨b3, b4⟩ := okRng_ok hr.2
        exact ⟨_, _, rfl, ⟨b1, b2, b3, b4⟩, q _ F1 H1 o1 x1 (feed_rng lo hi)⟩
      · cases ei
    · cases ei

/-! ### targets -/
def gTs : List Nat → TGs
  | [] => gNil
  | i :: is => gCons (gName i) (gTs is)
def gT (K : PySem.W.Frag) : Bool × List Nat → TG
  | (false, [i]) => gName i
  | (true, is) => gTup K is.length (gTs is)
  | _ => fun _ _ _ _ => False
def FnL (X : Cx) (sc : Scope) : Prop := ∀ x, locB sc x = true → Loc X.env.scope x ∧ (X.fn x = true ∨ X.env.scope.names.lookup x = some .local)
theorem t1_ok {sc : Scope} (hf : FnL X sc) (nd : X.N.Nodup) {i : Nat} (h : ckT1 X.N sc i x = true) : PG X x (gName i) := by
  unfold ckT1 at h
  split at h
  · rw [Bool.and_eq_true, decide_eq_true_eq] at h
    obtain ⟨h1, h2⟩ := hf _ h.2
    exact pg_name nd h.1 h1 h2
  · cases h
theorem notStar_asg {e : Expr} {es : List Expr} {env : Env} (h : notStar e = true) : assignEach (e :: es) env = (false, assign e env) :: assignEach es env := by
  cases e <;> first | rfl | (simp [notStar] at h)
theorem ts_ok {sc : Scope} (hf : FnL X sc) (nd : X.N.Nodup) : ∀ {is : List Nat} {es : List Expr}, ckTs X.N sc is es = true → PGs X es (gTs is) ∧ (assignEach es X.env).length = is.length ∧ (assignEach es X.env).findIdx? (·.1) = none
  | [], [], _ => ⟨pgs_nil, rfl, rfl⟩
  | [], _ :: _, h => by simp [ckTs] at h
  | _ :: _, [], h => by simp [ckTs] at h
  | i :: is, e :: es, h => by
    unfold ckTs at h
    simp only [Bool.and_eq_true] at h
    obtain ⟨h1, h2, h3⟩ := ts_ok hf nd h.2
    refine ⟨pgs_cons (t1_ok hf nd h.1.1) h1 (by rw [notStar_asg h.1.2]; rfl), by rw [notStar_asg h.1.2]; simp [h2], ?_⟩
    rw [notStar_asg h.1.2, List.findIdx?_cons]
    simp [h3]
theorem tg_ok {sc : Scope} (hc : X.calm = true) (hf : FnL X sc) (nd : X.N.Nodup) {t : Bool × List Nat} (h : ckTg X.N sc t x = true) : PG X x (gT X.K t) := by
  unfold ckTg at h
  split at h
  · exact t1_ok hf nd h
  · obtain ⟨h1, h2, h3⟩ := ts_ok hf nd h
    exact pg_tup hc h1 h2 h3
  · cases h
theorem wipe_set {i : Nat} {v : Option V} : ∀ {vs : List Nat} {σ : L2.St}, i ∈ vs → wipe (σ.set i v) vs = wipe σ vs
  | [], σ, h => by cases h
  | j :: vs, σ, h => by
    unfold wipe
    rcases List.mem_cons.mp h with e | e
    · subst e
      have : ∀ (vs : List Nat) (σ : L2.St), (wipe (σ.set i v) vs).set i none = (wipe σ vs).set i none := by
        intro vs
        induction vs with
        | nil => intro σ; simp [wipe]
        | cons j vs ih =>
          intro σ
          unfold wipe
          by_cases c : j = i
          · subst c; rw [List.set_set, List.set_set]; exact ih σ
          · rw [List.set_comm _ _ c, List.set_comm _ _ c, ih σ]
      exact this vs σ
    · rw [wipe_set e]
/-- a store to targets -/
theorem setT_ok {K : PySem.W.Frag} {fm : Fm} {F H : Hp} {ρ ρ2 : PEnv} {σ : L2.St} {t : Bool × List Nat} {v : V} {d : D} (o : OK K fm F ρ σ H) (r : Rep K F v d) (h : setT ρ t d = some ρ2) {Q : L2.St → Hp → Prop}
    (q : ∀ σ2, OK K fm F ρ2 σ2 H → (∀ vs : List Nat, (∀ i ∈ t.2, i ∈ vs) → wipe σ2 vs = wipe σ vs) → (∀ j, j ∉ t.2 → σ2[j]? = σ[j]?) → Q σ2 H) : gT K t v σ H Q := by
  unfold setT at h
  split at h
  · cases h
    exact q _ (o.setD r) (fun vs hv => wipe_set (hv _ (by simp))) (fun j hj => by rw [List.getElem?_set_ne (by simpa using Ne.symm (by simpa using hj))])
  · rename_i is ds
    split at h
    · rename_i hl
      cases h
      cases r with
      | tup h1 h2 =>
        rename_i a vs
        refine ⟨a, vs, rfl, o.exF.sqT h1.sqT, by rw [h2.length]; exact hl.symm, ?_⟩
        have gen : ∀ (is : List Nat) (ds : List D) (vs : List V) (ρ : PEnv) (σ : L2.St) (Q : L2.St → Hp → Prop), is.length = ds.length → OK K fm F ρ σ H → RepAll K F vs ds →
            (∀ σ2, OK K fm F (setT.go ρ is ds) σ2 H → (∀ vs : List Nat, (∀ i ∈ is, i ∈ vs) → wipe σ2 vs = wipe σ vs) → (∀ j, j ∉ is → σ2[j]? = σ[j]?) → Q σ2 H) → gTs is vs σ H Q := by
          intro is
          induction is with
          | nil =>
            intro ds vs ρ σ Q hl o r q
            cases ds with
            | nil => cases r; exact ⟨rfl, q σ o (fun _ _ => rfl) (fun _ _ => rfl)⟩
            | cons _ _ => simp at hl
          | cons i is ih =>
            intro ds vs ρ σ Q hl o r q
            cases ds with
            | nil => simp at hl
            | cons d ds =>
              cases r with
              | cons r1 r2 =>
                rename_i v vs
                refine ⟨v, vs, rfl, ih ds vs _ _ _ (by simpa using hl) (o.setD r1) r2 fun σ2 o2 w2 k2 => q σ2 o2 (fun ws hw => ?_) fun j hj => ?_⟩
                · rw [w2 ws (fun i hi => hw i (List.mem_cons_of_mem _ hi)), wipe_set (hw i (by simp))]
                · simp only [List.mem_cons, not_or] at hj
                  rw [k2 j hj.2, List.getElem?_set_ne (Ne.symm hj.1)]
        exact gen is ds vs ρ σ Q hl o h2 q
    · cases h
  · cases h
end
end Px
set_option Elab.async false
set_option linter.all false
set_option maxRecDepth 100000
set_option maxHeartbeats 2000000
namespace Px
open PySem PySem.Spec PyProof.Rows L2
section
variable {K : PySem.W.Frag} {fm : Fm} {F H : Hp} {ρ ρ0 : PEnv} {σ : L2.St}
theorem OK.wipe (o : OK K fm F ρ σ H) : ∀ vs : List Nat, OK K fm F (wipeP ρ vs) (wipe σ vs) H
  | [] => o
  | v :: vs => (o.wipe vs).unset2 v
theorem wipeP_get {i : Nat} {s : Slot} : ∀ {vs : List Nat}, getS (wipeP ρ vs) i = some s → i ∉ vs ∧ getS ρ i = some s
  | [], h => ⟨by simp, h⟩
  | v :: vs, h => by
    unfold wipeP at h
    obtain ⟨h1, h2⟩ := getS_set_none h
    obtain ⟨h3, h4⟩ := wipeP_get h2
    exact ⟨by simp [h1, h3], h4⟩
theorem wipeP_not {i : Nat} : ∀ {vs : List Nat}, i ∉ vs → getS (wipeP ρ vs) i = getS ρ i
  | [], h => rfl
  | v :: vs, h => by
    simp only [List.mem_cons, not_or] at h
    unfold wipeP
    rw [getS_set_ne h.1, wipeP_not h.2]
theorem wipe_not {i : Nat} : ∀ {vs : List Nat}, i ∉ vs → (L2.wipe σ vs)[i]? = σ[i]?
  | [], h => rfl
  | v :: vs, h => by
    simp only [List.mem_cons, not_or] at h
    unfold L2.wipe
    rw [List.getElem?_set_ne (Ne.symm h.1), wipe_not h.2]
theorem backP_len : ∀ vs : List Nat, (backP ρ0 ρ vs).length = ρ.length
  | [] => rfl
  | v :: vs => by unfold backP; rw [List.length_set, backP_len vs]
theorem backP_get {i : Nat} {s : Slot} : ∀ {vs : List Nat}, getS (backP ρ0 ρ vs) i = some s → (i ∈ vs ∧ getS ρ0 i = some s) ∨ (i ∉ vs ∧ getS ρ i = some s)
  | [], h => .inr ⟨by simp, h⟩
  | v :: vs, h => by
    unfold backP at h
    by_cases c : i = v
    · subst c
      obtain ⟨h1, h2⟩ := getS_some h
      rw [List.length_set] at h1
      rw [getS_set h1, if_pos rfl] at h
      exact .inl ⟨by simp, h⟩
    · rw [getS_set_ne c] at h
      rcases backP_get h with ⟨h1, h2⟩ | ⟨h1, h2⟩
      · exact .inl ⟨List.mem_cons_of_mem _ h1, h2⟩
      · exact .inr ⟨by simp [c, h1], h2⟩
theorem OK.back {F1 H1 : Hp} (o1 : OK K fm F1 ρ0 σ H1) (e : Ex F1 F) {vs : List Nat} (hv : (vs.all fun v => !isOwn (getS ρ0 v)) = true) (o : OK K fm F ρ (L2.wipe σ vs) H) : OK K fm F (backP ρ0 ρ vs) σ H := by
  have no : ∀ i xs, i ∈ vs → getS ρ0 i ≠ some (.mo xs) := fun i xs hi h => by
    have := List.all_eq_true.mp hv i hi
    rw [h] at this
    simp [isOwn] at this
  refine ⟨o.exB, o.exF, o.base, ?_, fun i s h => ?_, fun i j xs ys hij h1 h2 => ?_⟩
  · rw [backP_len, o.len, wipe_length]
  · rcases backP_get h with ⟨hi, h'⟩ | ⟨hi, h'⟩
    · obtain ⟨v, q1, q2⟩ := o1.slot i s h'
      cases s with
      | dat d => exact ⟨v, q1, Rep.mono e q2⟩
      | mo xs => exact absurd h' (no i xs hi)
    · obtain ⟨v, q1, q2⟩ := o.slot i s h'
      rw [wipe_not hi] at q1
      exact ⟨v, q1, q2⟩
  · rcases backP_get h1 with ⟨hi, h1'⟩ | ⟨hi, h1'⟩
    · exact absurd h1' (no i xs hi)
    · rcases backP_get h2 with ⟨hj, h2'⟩ | ⟨hj, h2'⟩
      · exact absurd h2' (no j ys hj)
      · have := o.inj i j xs ys hij h1' h2'
        rwa [wipe_not hi, wipe_not hj] at this
end
section
variable {X : Cx} {G : Sig} {k : Nat} {x y z : Expr} {es : List Expr} {a b c : Ar} {as : List Ar} {irs : List E} {pos : Pos}
theorem blk_fn {s : Shared} {H : Hp} {scope : Scope} {C : Addr} {cl : List (Str × Addr)} {fp : List Addr} : FnL (X.blk s H scope (compEnvC scope cl C X.env) fp) scope := by
  intro x h
  unfold locB at h
  have hrel : (compEnvC scope cl C X.env).scope = relS scope X.env.scope := rfl
  split at h
  · rename_i hx
    have := lookup_relS_keep (sc := X.env.scope) (k := .local) (by decide) hx
    exact ⟨.inl this, .inr this⟩
  · rename_i hx
    have := lookup_relS_keep (sc := X.env.scope) (k := .cell) (by decide) hx
    exact ⟨.inr this, .inl (by show (scope.names.lookup x == some .cell) = true; rw [hx]; rfl)⟩
  · cases h
theorem setT_own {t : Bool × List Nat} {d : D} {ρ ρ2 : PEnv} (hs : setT ρ t d = some ρ2) : ∀ j ∈ t.2, ∀ xs, getS ρ2 j ≠ some (.mo xs) := by
  unfold setT at hs
  split at hs
  · cases hs
    intro j hj xs hx
    simp only [List.mem_singleton] at hj
    subst hj
    have hl := (getS_some hx).1
    rw [List.length_set] at hl
    rw [getS_set hl, if_pos rfl] at hx
    cases hx
  · split at hs
    · cases hs
      rename_i is ds hlen
      intro j hj xs
      have gen : ∀ (is : List Nat) (ds : List D) (ρ : PEnv), is.length = ds.length → (j ∈ is ∨ ∀ xs, getS ρ j ≠ some (.mo xs)) → ∀ xs, getS (setT.go ρ is ds) j ≠ some (.mo xs) := by
        intro is
        induction is with
        | nil =>
          intro ds ρ hl hor
          rcases hor with h | h
          · cases h
          · cases ds with
            | nil => exact h
            | cons _ _ => simp at hl
        | cons i is ih =>
          intro ds ρ hl hor
          cases ds with
          | nil => simp at hl
          | cons d ds =>
            unfold setT.go
            refine ih ds _ (by simpa using hl) ?_
            by_cases cj : j ∈ is
            · exact .inl cj
            · right
              intro xs hx
              by_cases ci : j = i
              · subst ci
                have hl := (getS_some hx).1
                rw [List.length_set] at hl
                rw [getS_set hl, if_pos rfl] at hx
                cases hx
              · rw [getS_set_ne ci] at hx
                rcases hor with h | h
                · exact (by simpa [ci, cj] using h : False).elim
                · exact h xs hx
      exact gen is ds ρ hlen (.inl hj) xs
    · cases hs
  · cases hs
theorem setT_not {t : Bool × List Nat} {d : D} {ρ ρ2 : PEnv} (hs : setT ρ t d = some ρ2) : ∀ j, j ∉ t.2 → getS ρ2 j = getS ρ j := by
  unfold setT at hs
  split at hs
  · cases hs
    intro j hj
    exact getS_set_ne (by simpa using hj)
  · split at hs
    · cases hs
      intro j hj
      have gen : ∀ (is : List Nat) (ds : List D) (ρ : PEnv), j ∉ is → getS (setT.go ρ is ds) j = getS ρ j := by
        intro is
        induction is with
        | nil => intro ds ρ _; unfold setT.go; rfl
        | cons i is ih =>
          intro ds ρ hn
          simp only [List.mem_cons, not_or] at hn
          cases ds with
          | nil => unfold setT.go; rfl
          | cons d ds =>
            unfold setT.go
            rw [ih ds _ hn.2, getS_set_ne hn.1]
      exact gen _ _ _ hj
    · cases hs
  · cases hs
/-- the turn's function -/
abbrev compF (G : Sig) (vs : List Nat) (tg : Bool × List Nat) (ik : IK) (ρq : PEnv) (conds : List T) (elt : E) : D → PEnv → Out (List D × PEnv) := fun x ρ1 => (Out.of (setT ρ1 tg x)).bind fun ρ2 => (evC G true conds ρ2).bind fun t => match t.1 with
  | true => (ev G elt t.2).bind fun r => if sameB ik ρq r.2 = true then .ok ([r.1], wipeP r.2 vs) else .bad
  | false => if sameB ik ρq t.2 = true then .ok ([], wipeP t.2 vs) else .bad
theorem compL_cons {f : D → PEnv → Out (List D × PEnv)} {d : D} {ds : List D} {ρ ρn : PEnv} {out : List D} (h : compL f (d :: ds) ρ = .ok (out, ρn)) : ∃ o1 ρ1 o2, f d ρ = .ok (o1, ρ1) ∧ compL f ds ρ1 = .ok (o2, ρn) ∧ out = o1 ++ o2 := by
  unfold compL at h
  obtain ⟨⟨o1, ρ1⟩, e1, e2⟩ := Out.bind_inv h
  obtain ⟨⟨o2, ρ2⟩, e3, e4⟩ := Out.bind_inv e2
  cases e4
  exact ⟨o1, ρ1, o2, e1, e3, rfl⟩
theorem wipeP_idem : ∀ (vs : List Nat) (ρ : PEnv), (∀ i ∈ vs, getS ρ i = none) → ∀ i, getS (wipeP ρ vs) i = getS ρ i := fun vs ρ h i => by
  by_cases c : i ∈ vs
  · rw [h i c]
    cases e : getS (wipeP ρ vs) i with
    | none => rfl
    | some s => exact absurd c (wipeP_get e).1
  · exact wipeP_not c
theorem same_ok {ik : IK} {ρ0 ρ : PEnv} (h : sameB ik ρ0 ρ = true) : ∀ i, ik = .brw i → getS ρ i = getS ρ0 i := fun i e => by
  subst e
  exact (of_decide_eq_true h).symm
theorem comp_rd {K : PySem.W.Frag} {vs : List Nat} {tg : Bool × List Nat} {ik : IK} {ies : List E} {conds : List T} {elt : E} (hv : (tg.2.all fun i => vs.contains i) = true) {σ : L2.St} {H : Hp} {Q : VK}
    (h : tOwn K (ev G (.comp vs tg ik ies conds elt)) σ H Q) : tLc (tIt K ik (evs G ies)) (gT K tg) (tEvT K (evC G true conds)) (tEv K (ev G elt)) vs σ H Q := by
  obtain ⟨fm, F, ρ, d, ρ', o, e, q⟩ := h
  unfold ev at e
  obtain ⟨⟨ds, ρ1⟩, e1, e2⟩ := Out.bind_inv e
  obtain ⟨items, e3, e4⟩ := Out.bind_inv e2
  have e4 : (if (vs.all fun v => !isOwn (getS ρ1 v)) = true then (compL (compF G vs tg ik ρ1 conds elt) items (wipeP ρ1 vs)).bind fun r => if r.1.length < lim then Out.ok (D.lst r.1, backP ρ1 r.2 vs) else Out.bad else Out.bad) = Out.ok (.lst d, ρ') := e4
  have hno : (vs.all fun v => !isOwn (getS ρ1 v)) = true := by
    by_cases c : (vs.all fun v => !isOwn (getS ρ1 v)) = true
    · exact c
    · rw [if_neg c] at e4; cases e4
  rw [if_pos hno] at e4
  obtain ⟨⟨out, ρn⟩, e5, e6⟩ := Out.bind_inv e4
  have e6 : (if out.length < lim then Out.ok (D.lst out, backP ρ1 ρn vs) else Out.bad) = Out.ok (.lst d, ρ') := e6
  have hlen : out.length < lim := by
    by_cases c : out.length < lim
    · exact c
    · rw [if_neg c] at e6; cases e6
  rw [if_pos hlen] at e6
  have hd : out = d := by cases e6; rfl
  have hr : backP ρ1 ρn vs = ρ' := by cases e6; rfl
  subst hd
  subst hr
  have ei := Out.of_ok e3
  refine ⟨fm, F, ρ, ds, ρ1, items, o, e1, ei, fun J F1 H1 o1 x1 feed => fun D hD => ?_⟩
  have hBD : fm.B D = none := o1.exB.fresh hD
  have hFD : F1 D = none := o1.exF.fresh hD
  -- a list that is walked is not one of the block's own names
  have brwv : ∀ i, ik = .brw i → i ∉ vs := fun i hik hi' => by
    subst hik
    have : ∃ xs, getS ρ1 i = some (.own xs) := by
      cases ds with
      | nil =>
        have ei : (match getS ρ1 i with
          | some (.mo (.lst xs)) => some xs
          | _ => none) = some items := ei
        split at ei
        · rename_i xs hs; exact ⟨xs, hs⟩
        · cases ei
      | cons a b => cases ei
    obtain ⟨xs, hx⟩ := this
    have := List.all_eq_true.mp hno i hi'
    rw [hx] at this
    simp [isOwn] at this
  have brwσ : ∀ i, ik = .brw i → (L2.wipe σ vs)[i]? = σ[i]? := fun i hik => wipe_not (brwv i hik)
  refine ⟨fun i m H' => ∃ F' ρi acc out2 accv, m = items.length - i ∧ i ≤ items.length ∧ OK K fm F' ρi (L2.wipe σ vs) H' ∧ Ex F1 F' ∧ (∀ k, ik = .brw k → getS ρi k = getS ρ1 k) ∧
    H' D = some (.lst accv) ∧ RepAll K F' accv acc ∧ F' D = none ∧ (∀ j xs, getS ρi j = some (.mo xs) → (L2.wipe σ vs)[j]? ≠ some (some (.ref D))) ∧
    compL (compF G vs tg ik ρ1 conds elt) (items.drop i) ρi = .ok (out2, ρn) ∧ acc ++ out2 = out, ⟨items.length, F1, wipeP ρ1 vs, [], out, [], by simp, Nat.zero_le _, (o1.wipe vs).newH hD, Ex.refl F1, ?_, upd_same, .nil, hFD, ?_, by simpa using e5, rfl⟩, ?_⟩
  · intro k hk
    exact wipeP_not (brwv k hk)
  · intro j xs h1 h2
    obtain ⟨h3, h4⟩ := wipeP_get h1
    rw [wipe_not h3] at h2
    obtain ⟨v, q1, p, ws, rfl, b1, b2, b3, b4⟩ := o1.slot j _ h4
    rw [h2] at q1; cases q1
    rw [hD] at b3; cases b3
  rintro i m H' ⟨F', ρi, acc, out2, accv, rfl, hi', oi, xi, bi, hDi, ri, fDi, nDi, ci, hout⟩
  have fd := feed fm F' ρi (L2.wipe σ vs) H' oi xi (fun j hj => ⟨bi j hj, brwσ j hj⟩)
  by_cases hlt : i < items.length
  · right
    obtain ⟨g1, g2⟩ := fd.1 i items[i] (List.getElem?_eq_getElem hlt)
    refine ⟨g1, fun H'' => ∃ F' ρi acc out2 accv, i + 1 ≤ items.length ∧ OK K fm F' ρi (L2.wipe σ vs) H'' ∧ Ex F1 F' ∧ (∀ k, ik = .brw k → getS ρi k = getS ρ1 k) ∧
      H'' D = some (.lst accv) ∧ RepAll K F' accv acc ∧ F' D = none ∧ (∀ j xs, getS ρi j = some (.mo xs) → (L2.wipe σ vs)[j]? ≠ some (some (.ref D))) ∧
      compL (compF G vs tg ik ρ1 conds elt) (items.drop (i + 1)) ρi = .ok (out2, ρn) ∧ acc ++ out2 = out, fun H'' hN => ?_, fun x H2 hy => ?_⟩
    · obtain ⟨F2, ρ2, acc2, o2, av, n1, n2⟩ := hN
      exact ⟨items.length - (i + 1), by omega, F2, ρ2, acc2, o2, av, rfl, n1, n2⟩
    · obtain ⟨eH, rx⟩ := g2 x H2 hy
      subst eH
      have hdrop : items.drop i = items[i] :: items.drop (i + 1) := List.drop_eq_getElem_cons hlt
      rw [hdrop] at ci
      obtain ⟨o3, ρ3, o4, c1, c2, c3⟩ := compL_cons ci
      obtain ⟨ρ4, c4, c5⟩ := Out.bind_inv c1
      obtain ⟨⟨t, ρ5⟩, c6, c7⟩ := Out.bind_inv c5
      refine setT_ok oi rx (Out.of_ok c4) fun σ2 o2 w2 k2 => ?_
      have hw : L2.wipe σ2 vs = L2.wipe σ vs := by
        rw [w2 vs (fun j hj => by have := List.all_eq_true.mp hv j hj; simpa using this)]
        have : ∀ (vs : List Nat) (σ : L2.St), L2.wipe (L2.wipe σ vs) vs = L2.wipe σ vs := by
          intro vs σ
          apply List.ext_getElem?
          intro j
          by_cases hj : j ∈ vs
          · have z : ∀ (τ : L2.St), j < τ.length → (L2.wipe τ vs)[j]? = some none := by
              intro τ hτ
              induction vs with
              | nil => cases hj
              | cons v vs ih =>
                unfold L2.wipe
                by_cases cj : j = v
                · subst cj; rw [List.getElem?_set_self (by rw [wipe_length]; exact hτ)]
                · rw [List.getElem?_set_ne (Ne.symm cj)]
                  exact ih (by simpa [cj] using hj)
            by_cases hl : j < σ.length
            · rw [z _ (by rw [wipe_length]; exact hl), z _ hl]
            · rw [List.getElem?_eq_none (by rw [wipe_length, wipe_length]; omega), List.getElem?_eq_none (by rw [wipe_length]; omega)]
          · rw [wipe_not hj]
        exact this vs σ
      refine ⟨hw, ?_⟩
      have nD2 : ∀ j xs, getS ρ4 j = some (.mo xs) → σ2[j]? ≠ some (some (.ref D)) := fun j xs h1 h2 => by
        obtain ⟨v, q1, p, ws, rfl, b1, b2, b3, b4⟩ := o2.slot j _ h1
        rw [h2] at q1; cases q1
        have hj : j ∉ tg.2 := fun hj => by
          exact setT_own (Out.of_ok c4) j hj xs h1
        rw [k2 j hj] at h2
        have old : ∃ zs, getS ρi j = some (.mo zs) := by
          rw [setT_not (Out.of_ok c4) j hj] at h1
          exact ⟨xs, h1⟩
        obtain ⟨zs, hz⟩ := old
        exact nDi j zs hz h2
      have ok2 : OK K (fm.keep D (.lst accv)) F' ρ4 σ2 H2 := o2.keep fDi hDi nD2
      refine ⟨fm.keep D (.lst accv), F', ρ4, t, ρ5, ok2, c6, fun F3 H3 o3' x3 => ?_⟩
      cases t with
      | true =>
        rw [if_pos rfl]
        obtain ⟨⟨dv, ρ6⟩, c8, c9⟩ := Out.bind_inv c7
        have c9 : (if sameB ik ρ1 ρ6 = true then Out.ok ([dv], wipeP ρ6 vs) else Out.bad) = Out.ok (o3, ρ3) := c9
        have hsame : sameB ik ρ1 ρ6 = true := by
          by_cases c : sameB ik ρ1 ρ6 = true
          · exact c
          · rw [if_neg c] at c9; cases c9
        rw [if_pos hsame] at c9
        cases c9
        refine ⟨fm.keep D (.lst accv), F3, ρ5, dv, ρ6, o3', c8, fun v F4 H4 o4' x4 r4 => ?_⟩
        obtain ⟨ok4, f4, h4, n4⟩ := o4'.unkeep hBD
        have len1 : accv.length = acc.length := ri.length
        have len2 : acc.length ≤ out.length := by rw [← hout, List.length_append]; omega
        refine ⟨accv, h4, by rw [len1, ← lim_eq]; omega, F4, wipeP ρ6 vs, acc ++ [dv], o4, accv ++ [v], by omega, ?_, (xi.trans x3).trans x4, fun k hk => ?_, upd_same, (ri.mono (x3.trans x4)).app (.one r4), f4, fun j xs h1 h2 => ?_, c2, ?_⟩
        · have := (ok4.chg (x := .lst (accv ++ [v])) hBD f4 n4).wipe vs
          rwa [hw] at this
        · rw [wipeP_not (brwv k hk)]; exact same_ok hsame k hk
        · obtain ⟨h3, h5⟩ := wipeP_get h1
          rw [← hw, wipe_not h3] at h2
          exact n4 j xs h5 h2
        · rw [← hout, c3]; simp
      | false =>
        rw [if_neg Bool.false_ne_true]
        have c7 : (if sameB ik ρ1 ρ5 = true then Out.ok ([], wipeP ρ5 vs) else Out.bad) = Out.ok (o3, ρ3) := c7
        have hsame : sameB ik ρ1 ρ5 = true := by
          by_cases c : sameB ik ρ1 ρ5 = true
          · exact c
          · rw [if_neg c] at c7; cases c7
        rw [if_pos hsame] at c7
        cases c7
        obtain ⟨ok4, f4, h4, n4⟩ := o3'.unkeep hBD
        refine ⟨F3, wipeP ρ5 vs, acc, o4, accv, by omega, ?_, xi.trans x3, fun k hk => ?_, h4, ri.mono x3, f4, fun j xs h1 h2 => ?_, c2, ?_⟩
        · have := ok4.wipe vs
          rwa [hw] at this
        · rw [wipeP_not (brwv k hk)]; exact same_ok hsame k hk
        · obtain ⟨h3, h5⟩ := wipeP_get h1
          rw [← hw, wipe_not h3] at h2
          exact n4 j xs h5 h2
        · rw [← hout, c3]; simp
  · left
    have hie : i = items.length := by omega
    subst hie
    refine ⟨fd.2 _ (Nat.le_refl _), ?_⟩
    rw [List.drop_length] at ci
    unfold compL at ci
    cases ci
    rw [List.append_nil] at hout
    subst hout
    have ob := o1.back xi hno oi
    refine q _ F' H' ob (x1.trans xi) ⟨D, _, rfl, hBD, fDi, hDi, ⟨accv, rfl, ri⟩, fun j xs h1 h2 => ?_⟩
    rcases backP_get h1 with ⟨hj, h1'⟩ | ⟨hj, h1'⟩
    · have := List.all_eq_true.mp hno j hj
      rw [h1'] at this
      simp [isOwn] at this
    · exact nDi j xs h1' (by rw [wipe_not hj]; exact h2)
/-! ### two clauses -/
theorem wipe_sub {vs vs1 : List Nat} (h : ∀ i ∈ vs1, i ∈ vs) : ∀ σ : L2.St, L2.wipe (L2.wipe σ vs1) vs = L2.wipe σ vs := by
  intro σ
  induction vs1 with
  | nil => rfl
  | cons v us ih =>
    show L2.wipe ((L2.wipe σ us).set v none) vs = _
    rw [wipe_set (h v (List.mem_cons_self ..)), ih fun i hi => h i (List.mem_cons_of_mem _ hi)]
abbrev comp2F1 (G : Sig) (vs1 : List Nat) (tg1 : Bool × List Nat) (conds1 : List T) (elt : E) : D → PEnv → Out (List D × PEnv) := fun y ρ3 => (Out.of (setT ρ3 tg1 y)).bind fun ρ4 => (evC G true conds1 ρ4).bind fun u => match u.1 with
  | true => (ev G elt u.2).bind fun r => .ok ([r.1], wipeP r.2 vs1)
  | false => .ok ([], wipeP u.2 vs1)
abbrev comp2F (G : Sig) (vs : List Nat) (tg : Bool × List Nat) (conds : List T) (vs1 : List Nat) (tg1 : Bool × List Nat) (ik1 : IK) (ies1 : List E) (conds1 : List T) (elt : E) : D → PEnv → Out (List D × PEnv) := fun x ρ1 => (Out.of (setT ρ1 tg x)).bind fun ρ2 => (evC G true conds ρ2).bind fun t => match t.1 with
  | true => (evs G ies1 t.2).bind fun q1 => (Out.of (itemsOf q1.2 ik1 q1.1)).bind fun items1 =>
      (compL (comp2F1 G vs1 tg1 conds1 elt) items1 (wipeP q1.2 vs1)).bind fun r => .ok (r.1, wipeP r.2 vs)
  | false => .ok ([], wipeP t.2 vs)
theorem comp2_rd {K : PySem.W.Frag} {vs : List Nat} {tg : Bool × List Nat} {ik : IK} {ies : List E} {conds : List T} {vs1 : List Nat} {tg1 : Bool × List Nat} {ik1 : IK} {ies1 : List E} {conds1 : List T} {elt : E} (hv : (tg.2.all fun i => vs.contains i) = true) (hv1 : (tg1.2.all fun i => vs1.contains i) = true) (hvv : (vs1.all fun i => vs.contains i) = true) {σ : L2.St} {H : Hp} {Q : VK}
    (h : tOwn K (ev G (.comp2 vs tg ik ies conds vs1 tg1 ik1 ies1 conds1 elt)) σ H Q) : tLc2 (tIt K ik (evs G ies)) (gT K tg) (tEvT K (evC G true conds)) (tIt K ik1 (evs G ies1)) (gT K tg1) (tEvT K (evC G true conds1)) (tEv K (ev G elt)) vs vs1 σ H Q := by
  have hv' : ∀ i ∈ tg.2, i ∈ vs := fun i hi => by simpa using List.all_eq_true.mp hv i hi
  have hv1' : ∀ i ∈ tg1.2, i ∈ vs1 := fun i hi => by simpa using List.all_eq_true.mp hv1 i hi
  have hvv' : ∀ i ∈ vs1, i ∈ vs := fun i hi => by simpa using List.all_eq_true.mp hvv i hi
  obtain ⟨fm, F, ρ, d, ρ', o, e, q⟩ := h
  unfold ev at e
  obtain ⟨⟨ds, ρ1⟩, e1, e2⟩ := Out.bind_inv e
  obtain ⟨items, e3, e4⟩ := Out.bind_inv e2
  have e4 : (if (vs.all fun v => !isOwn (getS ρ1 v)) = true ∧ isBrw ik = false ∧ isBrw ik1 = false then (compL (comp2F G vs tg conds vs1 tg1 ik1 ies1 conds1 elt) items (wipeP ρ1 vs)).bind fun r => if r.1.length < lim then Out.ok (D.lst r.1, backP ρ1 r.2 vs) else Out.bad else Out.bad) = Out.ok (.lst d, ρ') := e4
  have hc : (vs.all fun v => !isOwn (getS ρ1 v)) = true ∧ isBrw ik = false ∧ isBrw ik1 = false := by
    by_cases c : (vs.all fun v => !isOwn (getS ρ1 v)) = true ∧ isBrw ik = false ∧ isBrw ik1 = false
    · exact c
    · rw [if_neg c] at e4; cases e4
  rw [if_pos hc] at e4
  obtain ⟨hno, hb0, hb1⟩ := hc
  obtain ⟨⟨out, ρn⟩, e5, e6⟩ := Out.bind_inv e4
  have e6 : (if out.length < lim then Out.ok (D.lst out, backP ρ1 ρn vs) else Out.bad) = Out.ok (.lst d, ρ') := e6
  have hlen : out.length < lim := by
    by_cases c : out.length < lim
    · exact c
    · rw [if_neg c] at e6; cases e6
  rw [if_pos hlen] at e6
  have hd : out = d := by cases e6; rfl
  have hr : backP ρ1 ρn vs = ρ' := by cases e6; rfl
  subst hd
  subst hr
  have ei := Out.of_ok e3
  refine ⟨fm, F, ρ, ds, ρ1, items, o, e1, ei, fun J F1 H1 o1 x1 feed => fun D hD => ?_⟩
  have hBD : fm.B D = none := o1.exB.fresh hD
  have hFD : F1 D = none := o1.exF.fresh hD
  have hsl : ∀ (acc : List Px.D) (accv : List V) (F' : Hp), RepAll K F' accv acc → acc.length < lim → accv.length < sizeLine := fun acc accv F' r h => by rw [r.length, ← lim_eq]; exact h
  refine ⟨fun i m H' => ∃ F' ρi acc out2 accv, m = items.length - i ∧ i ≤ items.length ∧ OK K fm F' ρi (L2.wipe σ vs) H' ∧ Ex F1 F' ∧
    H' D = some (.lst accv) ∧ RepAll K F' accv acc ∧ F' D = none ∧ (∀ j xs, getS ρi j = some (.mo xs) → (L2.wipe σ vs)[j]? ≠ some (some (.ref D))) ∧
    compL (comp2F G vs tg conds vs1 tg1 ik1 ies1 conds1 elt) (items.drop i) ρi = .ok (out2, ρn) ∧ acc ++ out2 = out, ⟨items.length, F1, wipeP ρ1 vs, [], out, [], by simp, Nat.zero_le _, (o1.wipe vs).newH hD, Ex.refl F1, upd_same, .nil, hFD, ?_, by simpa using e5, rfl⟩, ?_⟩
  · intro j xs h1 h2
    obtain ⟨h3, h4⟩ := wipeP_get h1
    rw [wipe_not h3] at h2
    obtain ⟨v, q1, p, ws, rfl, b1, b2, b3, b4⟩ := o1.slot j _ h4
    rw [h2] at q1; cases q1
    rw [hD] at b3; cases b3
  rintro i m H' ⟨F', ρi, acc, out2, accv, rfl, hi', oi, xi, hDi, ri, fDi, nDi, ci, hout⟩
  have fd := feed fm F' ρi (L2.wipe σ vs) H' oi xi (fun j hj => by subst hj; cases hb0)
  by_cases hlt : i < items.length
  · right
    obtain ⟨g1, g2⟩ := fd.1 i items[i] (List.getElem?_eq_getElem hlt)
    refine ⟨g1, fun H'' => ∃ F' ρi acc out2 accv, i + 1 ≤ items.length ∧ OK K fm F' ρi (L2.wipe σ vs) H'' ∧ Ex F1 F' ∧
      H'' D = some (.lst accv) ∧ RepAll K F' accv acc ∧ F' D = none ∧ (∀ j xs, getS ρi j = some (.mo xs) → (L2.wipe σ vs)[j]? ≠ some (some (.ref D))) ∧
      compL (comp2F G vs tg conds vs1 tg1 ik1 ies1 conds1 elt) (items.drop (i + 1)) ρi = .ok (out2, ρn) ∧ acc ++ out2 = out, fun H'' hN => ?_, fun x H2 hy => ?_⟩
    · obtain ⟨F2, ρ2, acc2, o2, av, n1, n2⟩ := hN
      exact ⟨items.length - (i + 1), by omega, F2, ρ2, acc2, o2, av, rfl, n1, n2⟩
    · obtain ⟨eH, rx⟩ := g2 x H2 hy
      subst eH
      have hdrop : items.drop i = items[i] :: items.drop (i + 1) := List.drop_eq_getElem_cons hlt
      rw [hdrop] at ci
      obtain ⟨o3, ρ3, o4, c1, c2, c3⟩ := compL_cons ci
      obtain ⟨ρ4, c4, c5⟩ := Out.bind_inv c1
      obtain ⟨⟨t, ρ5⟩, c6, c7⟩ := Out.bind_inv c5
      refine setT_ok oi rx (Out.of_ok c4) fun σ2 o2 w2 k2 => ?_
      have hw : L2.wipe σ2 vs = L2.wipe σ vs := by rw [w2 vs hv', wipe_sub fun i hi => hi]
      refine ⟨hw, ?_⟩
      have nD2 : ∀ j xs, getS ρ4 j = some (.mo xs) → σ2[j]? ≠ some (some (.ref D)) := fun j xs h1 h2 => by
        have hj : j ∉ tg.2 := fun hj => setT_own (Out.of_ok c4) j hj xs h1
        rw [k2 j hj] at h2
        rw [setT_not (Out.of_ok c4) j hj] at h1
        exact nDi j xs h1 h2
      have ok2 : OK K (fm.keep D (.lst accv)) F' ρ4 σ2 H2 := o2.keep fDi hDi nD2
      refine ⟨fm.keep D (.lst accv), F', ρ4, t, ρ5, ok2, c6, fun F3 H3 o3' x3 => ?_⟩
      cases t with
      | true =>
        rw [if_pos rfl]
        obtain ⟨⟨q1, ρ6⟩, d1, d2⟩ := Out.bind_inv c7
        obtain ⟨items1, d3, d4⟩ := Out.bind_inv d2
        obtain ⟨⟨o5, ρ7⟩, d5, d6⟩ := Out.bind_inv d4
        cases d6
        refine ⟨fm.keep D (.lst accv), F3, ρ5, q1, ρ6, items1, o3', d1, Out.of_ok d3, fun J1 F4 H4 o4' x4 feed1 => ?_⟩
        obtain ⟨ok4, f4, h4, n4⟩ := o4'.unkeep hBD
        have nD4 : ∀ j xs, getS (wipeP ρ6 vs1) j = some (.mo xs) → (L2.wipe σ2 vs1)[j]? ≠ some (some (.ref D)) := fun j xs h1 h2 => by
          obtain ⟨h3, h5⟩ := wipeP_get h1
          rw [wipe_not h3] at h2
          exact n4 j xs h5 h2
        refine ⟨fun j k H' => ∃ F' ρj a o2 av, k = items1.length - j ∧ j ≤ items1.length ∧ OK K fm F' ρj (L2.wipe σ2 vs1) H' ∧ Ex F4 F' ∧
          H' D = some (.lst av) ∧ RepAll K F' av a ∧ F' D = none ∧ (∀ j xs, getS ρj j = some (.mo xs) → (L2.wipe σ2 vs1)[j]? ≠ some (some (.ref D))) ∧
          compL (comp2F1 G vs1 tg1 conds1 elt) (items1.drop j) ρj = .ok (o2, ρ7) ∧ a ++ o2 = acc ++ o5, ⟨items1.length, F4, wipeP ρ6 vs1, acc, o5, accv, by simp, Nat.zero_le _, ok4.wipe vs1, Ex.refl F4, h4, ri.mono (x3.trans x4), f4, nD4, by simpa using d5, rfl⟩, ?_⟩
        rintro j k H5 ⟨F5, ρj, a, o6, av, rfl, hj', oj, xj, hDj, rj, fDj, nDj, cj, houtj⟩
        have fd1 := feed1 fm F5 ρj (L2.wipe σ2 vs1) H5 oj xj (fun j hj => by subst hj; cases hb1)
        by_cases hlt1 : j < items1.length
        · right
          obtain ⟨g3, g4⟩ := fd1.1 j items1[j] (List.getElem?_eq_getElem hlt1)
          refine ⟨g3, fun H'' => ∃ F' ρj a o2 av, j + 1 ≤ items1.length ∧ OK K fm F' ρj (L2.wipe σ2 vs1) H'' ∧ Ex F4 F' ∧
            H'' D = some (.lst av) ∧ RepAll K F' av a ∧ F' D = none ∧ (∀ j xs, getS ρj j = some (.mo xs) → (L2.wipe σ2 vs1)[j]? ≠ some (some (.ref D))) ∧
            compL (comp2F1 G vs1 tg1 conds1 elt) (items1.drop (j + 1)) ρj = .ok (o2, ρ7) ∧ a ++ o2 = acc ++ o5, fun H'' hN => ?_, fun x6 H6 hy6 => ?_⟩
          · obtain ⟨F2, ρ2, acc2, o2, av, n1, n2⟩ := hN
            exact ⟨items1.length - (j + 1), by omega, F2, ρ2, acc2, o2, av, rfl, n1, n2⟩
          · obtain ⟨eH6, rx6⟩ := g4 x6 H6 hy6
            subst eH6
            have hdrop1 : items1.drop j = items1[j] :: items1.drop (j + 1) := List.drop_eq_getElem_cons hlt1
            rw [hdrop1] at cj
            obtain ⟨o8, ρ8, o9, k1, k2', k3⟩ := compL_cons cj
            obtain ⟨ρ9, k4, k5⟩ := Out.bind_inv k1
            obtain ⟨⟨u, ρ10⟩, k6, k7⟩ := Out.bind_inv k5
            refine setT_ok oj rx6 (Out.of_ok k4) fun σ3 o10 w3 k10 => ?_
            have hw3 : L2.wipe σ3 vs1 = L2.wipe σ2 vs1 := by rw [w3 vs1 hv1', wipe_sub fun i hi => hi]
            refine ⟨hw3, ?_⟩
            have nD9 : ∀ j xs, getS ρ9 j = some (.mo xs) → σ3[j]? ≠ some (some (.ref D)) := fun j xs h1 h2 => by
              have hj : j ∉ tg1.2 := fun hj => setT_own (Out.of_ok k4) j hj xs h1
              rw [k10 j hj] at h2
              rw [setT_not (Out.of_ok k4) j hj] at h1
              exact nDj j xs h1 h2
            have ok10 : OK K (fm.keep D (.lst av)) F5 ρ9 σ3 H6 := o10.keep fDj hDj nD9
            refine ⟨fm.keep D (.lst av), F5, ρ9, u, ρ10, ok10, k6, fun F7 H7 o11 x7 => ?_⟩
            cases u with
            | true =>
              rw [if_pos rfl]
              obtain ⟨⟨dv, ρ11⟩, k8, k9⟩ := Out.bind_inv k7
              cases k9
              refine ⟨fm.keep D (.lst av), F7, ρ10, dv, ρ11, o11, k8, fun v F8 H8 o12 x8 r8 => ?_⟩
              obtain ⟨ok8, f8, h8, n8⟩ := o12.unkeep hBD
              have len3 : a.length ≤ out.length := by
                have h9 := congrArg List.length houtj
                have h10 := congrArg List.length hout
                rw [c3] at h10
                rw [k3] at h9
                simp only [List.length_append, List.length_cons, List.length_nil] at h9 h10
                omega
              refine ⟨av, h8, hsl _ _ _ rj (by omega), F8, wipeP ρ11 vs1, a ++ [dv], o9, av ++ [v], by omega, ?_, (xj.trans x7).trans x8, upd_same, (rj.mono (x7.trans x8)).app (.one r8), f8, fun j xs h1 h2 => ?_, k2', ?_⟩
              · have := (ok8.chg (x := .lst (av ++ [v])) hBD f8 n8).wipe vs1
                rwa [hw3] at this
              · obtain ⟨h3, h5⟩ := wipeP_get h1
                rw [← hw3, wipe_not h3] at h2
                exact n8 j xs h5 h2
              · rw [← houtj, k3]; simp
            | false =>
              rw [if_neg Bool.false_ne_true]
              cases k7
              obtain ⟨ok8, f8, h8, n8⟩ := o11.unkeep hBD
              refine ⟨F7, wipeP ρ10 vs1, a, o9, av, by omega, ?_, xj.trans x7, h8, rj.mono x7, f8, fun j xs h1 h2 => ?_, k2', ?_⟩
              · have := ok8.wipe vs1
                rwa [hw3] at this
              · obtain ⟨h3, h5⟩ := wipeP_get h1
                rw [← hw3, wipe_not h3] at h2
                exact n8 j xs h5 h2
              · rw [← houtj, k3]; simp
        · left
          have hie : j = items1.length := by omega
          subst hie
          refine ⟨fd1.2 _ (Nat.le_refl _), ?_⟩
          rw [List.drop_length] at cj
          unfold compL at cj
          cases cj
          rw [List.append_nil] at houtj
          subst houtj
          have o9 := oj.wipe vs
          rw [wipe_sub hvv', hw] at o9
          refine ⟨F5, _, _, o4, av, by omega, o9, ((xi.trans x3).trans x4).trans xj, hDj, rj, fDj, fun j xs h1 h2 => ?_, c2, ?_⟩
          · obtain ⟨h3, h5⟩ := wipeP_get h1
            have h6 : (L2.wipe σ2 vs1)[j]? = (L2.wipe σ vs)[j]? := by
              rw [← hw, wipe_not h3, wipe_not fun z => h3 (hvv' j z)]
            rw [← h6] at h2
            exact nDj j xs h5 h2
          · rw [← hout, c3]; simp
      | false =>
        rw [if_neg Bool.false_ne_true]
        cases c7
        obtain ⟨ok4, f4, h4, n4⟩ := o3'.unkeep hBD
        refine ⟨F3, wipeP ρ5 vs, acc, o4, accv, by omega, ?_, xi.trans x3, h4, ri.mono x3, f4, fun j xs h1 h2 => ?_, c2, ?_⟩
        · have := ok4.wipe vs
          rwa [hw] at this
        · obtain ⟨h3, h5⟩ := wipeP_get h1
          rw [← hw, wipe_not h3] at h2
          exact n4 j xs h5 h2
        · rw [← hout, c3]; simp
  · left
    have hie : i = items.length := by omega
    subst hie
    refine ⟨fd.2 _ (Nat.le_refl _), ?_⟩
    rw [List.drop_length] at ci
    unfold compL at ci
    cases ci
    rw [List.append_nil] at hout
    subst hout
    have ob := o1.back xi hno oi
    refine q _ F' H' ob (x1.trans xi) ⟨D, _, rfl, hBD, fDi, hDi, ⟨accv, rfl, ri⟩, fun j xs h1 h2 => ?_⟩
    rcases backP_get h1 with ⟨hj, h1'⟩ | ⟨hj, h1'⟩
    · have := List.all_eq_true.mp hno j hj
      rw [h1'] at this
      simp [isOwn] at this
    · exact nDi j xs h1' (by rw [wipe_not hj]; exact h2)
theorem own_nm {N : List Str} {vs : List Nat} : (ownOf N vs).map (·.2) = vs := by unfold ownOf; rw [List.map_map]; exact List.map_id' vs
theorem comp_ok {vs : List Nat} {tg : Bool × List Nat} {ik : IK} {ies : List E} {conds : List T} {elt : E} {scope : Scope} {tgx iterx eltx : Expr} {ifsx : List Expr} (w : WX X G k) (hB : blkC X.N X.env.scope scope (ownOf X.N vs) = true)
    (hT : ckTg X.N scope tg tgx = true) (hv : (tg.2.all fun i => vs.contains i) = true) (hns : notSet iterx = true) (hi : PI X tgx iterx (tIt X.K ik (evs G ies)))
    (hc : ∀ (s : Shared) (H : Hp) (C : Addr) (cl : List (Str × Addr)) (fp : List Addr), PTs (X.blk s H scope (compEnvC scope cl C X.env) fp) ifsx (tEvT X.K (evC G true conds)))
    (he : ∀ (s : Shared) (H : Hp) (C : Addr) (cl : List (Str × Addr)) (fp : List Addr), PE (X.blk s H scope (compEnvC scope cl C X.env) fp) eltx (tEv X.K (ev G elt))) :
    PE X (.ListComp eltx [⟨tgx, iterx, ifsx, 0⟩] scope pos) (tOwn X.K (ev G (.comp vs tg ik ies conds elt))) := by
  have key := pe_lc (pos := pos) (g := gT X.K tg) w.calm w.nd hi (blkOk_by hB) (fun s H C cl fp => tg_ok (X := X.blk s H scope (compEnvC scope cl C X.env) fp) w.calm blk_fn w.nd hT) hc he (notSet_fold hns)
  rw [own_nm] at key
  exact key.imp fun σ H Q h => comp_rd hv h
/-- name = [..] -/
theorem compS_ok {vs : List Nat} {tg : Bool × List Nat} {ik : IK} {ies : List E} {conds : List T} {elt : E} {scope : Scope} {tgx iterx eltx : Expr} {ifsx : List Expr} {i : Nat} {n : Str} {pn spos : Pos} (w : WX X G k) (hf : FnL X X.env.scope) (hB : blkC X.N X.env.scope scope (ownOf X.N vs) = true)
    (hT : ckTg X.N scope tg tgx = true) (hv : (tg.2.all fun i => vs.contains i) = true) (hns : notSet iterx = true) (hi : PI X tgx iterx (tIt X.K ik (evs G ies)))
    (hc : ∀ (s : Shared) (H : Hp) (C : Addr) (cl : List (Str × Addr)) (fp : List Addr), PTs (X.blk s H scope (compEnvC scope cl C X.env) fp) ifsx (tEvT X.K (evC G true conds)))
    (he : ∀ (s : Shared) (H : Hp) (C : Addr) (cl : List (Str × Addr)) (fp : List Addr), PE (X.blk s H scope (compEnvC scope cl C X.env) fp) eltx (tEv X.K (ev G elt)))
    (hn : ckT1 X.N X.env.scope i (.Name n pn) = true) :
    PS X (.Assign [.Name n pn] (.ListComp eltx [⟨tgx, iterx, ifsx, 0⟩] scope pos) spos) (tAsg (tOwn X.K (ev G (.comp vs tg ik ies conds elt))) (gName i)) := by
  have hp := comp_ok (pos := pos) w hB hT hv hns hi hc he
  have hn' := hn
  unfold ckT1 at hn'
  rw [Bool.and_eq_true, decide_eq_true_eq] at hn'
  obtain ⟨n1, n2⟩ := hn'
  obtain ⟨l1, l2⟩ := hf n n2
  have sw : ∃ b : Bool, swapsWith (.ListComp eltx [⟨tgx, iterx, ifsx, 0⟩] scope pos) (some (.Name n pn)) spos.line X.env = pure b ∧ (b = true → X.env.scope.names.lookup n = some .local) := by
    refine ⟨X.env.blockKind == .function && X.env.kindOf n == some .local && pn.line == pos.line && !(scope.names.any fun (m, k) => m == n && (k == .local || k == .cell)), rfl, fun h => ?_⟩
    simp only [Bool.and_eq_true, beq_iff_eq] at h
    exact h.1.1.2
  obtain ⟨b, sw1, sw2⟩ := sw
  cases b with
  | false => exact ps_set w.nd n1 l1 hp sw1 l2
  | true =>
    have key := ps_setLc (pos := pos) (g := gT X.K tg) w.calm w.nd n1 (sw2 rfl) sw1 hi (blkOk_by hB) (fun s H C cl fp => tg_ok (X := X.blk s H scope (compEnvC scope cl C X.env) fp) w.calm blk_fn w.nd hT) hc he (notSet_fold hns)
    rw [own_nm] at key
    exact key.imp fun D σ H h => comp_rd hv h
theorem comp2_ok {vs : List Nat} {tg : Bool × List Nat} {ik : IK} {ies : List E} {conds : List T} {vs1 : List Nat} {tg1 : Bool × List Nat} {ik1 : IK} {ies1 : List E} {conds1 : List T} {elt : E} {scope : Scope} {tgx iterx tgx1 iterx1 eltx : Expr} {ifsx ifsx1 : List Expr} (w : WX X G k) (hB : blkC X.N X.env.scope scope (ownOf X.N vs) = true)
    (hT : ckTg X.N scope tg tgx = true) (hv : (tg.2.all fun i => vs.contains i) = true) (hns : notSet iterx = true) (hi : PI X tgx iterx (tIt X.K ik (evs G ies)))
    (hc : ∀ (s : Shared) (H : Hp) (C : Addr) (cl : List (Str × Addr)) (fp : List Addr), PTs (X.blk s H scope (compEnvC scope cl C X.env) fp) ifsx (tEvT X.K (evC G true conds)))
    (hT1 : ckTg X.N scope tg1 tgx1 = true) (hv1 : (tg1.2.all fun i => vs1.contains i) = true) (hvv : (vs1.all fun i => vs.contains i) = true) (hns1 : notSet iterx1 = true)
    (hi1 : ∀ (s : Shared) (H : Hp) (C : Addr) (cl : List (Str × Addr)) (fp : List Addr), PI (X.blk s H scope (compEnvC scope cl C X.env) fp) tgx1 iterx1 (tIt X.K ik1 (evs G ies1)))
    (hc1 : ∀ (s : Shared) (H : Hp) (C : Addr) (cl : List (Str × Addr)) (fp : List Addr), PTs (X.blk s H scope (compEnvC scope cl C X.env) fp) ifsx1 (tEvT X.K (evC G true conds1)))
    (he : ∀ (s : Shared) (H : Hp) (C : Addr) (cl : List (Str × Addr)) (fp : List Addr), PE (X.blk s H scope (compEnvC scope cl C X.env) fp) eltx (tEv X.K (ev G elt))) :
    PE X (.ListComp eltx [⟨tgx, iterx, ifsx, 0⟩, ⟨tgx1, iterx1, ifsx1, 0⟩] scope pos) (tOwn X.K (ev G (.comp2 vs tg ik ies conds vs1 tg1 ik1 ies1 conds1 elt))) := by
  have key := pe_lc2 (pos := pos) (g := gT X.K tg) (g1 := gT X.K tg1) (vs1 := vs1) w.calm w.nd hi (blkOk_by hB) (by rw [own_nm]; exact fun i hi => by simpa using List.all_eq_true.mp hvv i hi) (fun s H C cl fp => tg_ok (X := X.blk s H scope (compEnvC scope cl C X.env) fp) w.calm blk_fn w.nd hT) hc hi1 (fun s H C cl fp => tg_ok (X := X.blk s H scope (compEnvC scope cl C X.env) fp) w.calm blk_fn w.nd hT1) hc1 he (notSet_fold hns) (fun env => notSet_fold hns1)
  rw [own_nm] at key
  exact key.imp fun σ H Q h => comp2_rd hv hv1 hvv h
theorem compS2_ok {vs : List Nat} {tg : Bool × List Nat} {ik : IK} {ies : List E} {conds : List T} {vs1 : List Nat} {tg1 : Bool × List Nat} {ik1 : IK} {ies1 : List E} {conds1 : List T} {elt : E} {scope : Scope} {tgx iterx tgx1 iterx1 eltx : Expr} {ifsx ifsx1 : List Expr} {i : Nat} {n : Str} {pn spos : Pos} (w : WX X G k) (hf : FnL X X.env.scope) (hB : blkC X.N X.env.scope scope (ownOf X.N vs) = true)
    (hT : ckTg X.N scope tg tgx = true) (hv : (tg.2.all fun i => vs.contains i) = true) (hns : notSet iterx = true) (hi : PI X tgx iterx (tIt X.K ik (evs G ies)))
    (hc : ∀ (s : Shared) (H : Hp) (C : Addr) (cl : List (Str × Addr)) (fp : List Addr), PTs (X.blk s H scope (compEnvC scope cl C X.env) fp) ifsx (tEvT X.K (evC G true conds)))
    (hT1 : ckTg X.N scope tg1 tgx1 = true) (hv1 : (tg1.2.all fun i => vs1.contains i) = true) (hvv : (vs1.all fun i => vs.contains i) = true) (hns1 : notSet iterx1 = true)
    (hi1 : ∀ (s : Shared) (H : Hp) (C : Addr) (cl : List (Str × Addr)) (fp : List Addr), PI (X.blk s H scope (compEnvC scope cl C X.env) fp) tgx1 iterx1 (tIt X.K ik1 (evs G ies1)))
    (hc1 : ∀ (s : Shared) (H : Hp) (C : Addr) (cl : List (Str × Addr)) (fp : List Addr), PTs (X.blk s H scope (compEnvC scope cl C X.env) fp) ifsx1 (tEvT X.K (evC G true conds1)))
    (he : ∀ (s : Shared) (H : Hp) (C : Addr) (cl : List (Str × Addr)) (fp : List Addr), PE (X.blk s H scope (compEnvC scope cl C X.env) fp) eltx (tEv X.K (ev G elt)))
    (hn : ckT1 X.N X.env.scope i (.Name n pn) = true) :
    PS X (.Assign [.Name n pn] (.ListComp eltx [⟨tgx, iterx, ifsx, 0⟩, ⟨tgx1, iterx1, ifsx1, 0⟩] scope pos) spos) (tAsg (tOwn X.K (ev G (.comp2 vs tg ik ies conds vs1 tg1 ik1 ies1 conds1 elt))) (gName i)) := by
  have hp := comp2_ok (pos := pos) w hB hT hv hns hi hc hT1 hv1 hvv hns1 hi1 hc1 he
  have hn' := hn
  unfold ckT1 at hn'
  rw [Bool.and_eq_true, decide_eq_true_eq] at hn'
  obtain ⟨n1, n2⟩ := hn'
  obtain ⟨l1, l2⟩ := hf n n2
  have sw : ∃ b : Bool, swapsWith (.ListComp eltx [⟨tgx, iterx, ifsx, 0⟩, ⟨tgx1, iterx1, ifsx1, 0⟩] scope pos) (some (.Name n pn)) spos.line X.env = pure b ∧ (b = true → X.env.scope.names.lookup n = some .local) := by
    refine ⟨X.env.blockKind == .function && X.env.kindOf n == some .local && pn.line == pos.line && !(scope.names.any fun (m, k) => m == n && (k == .local || k == .cell)), rfl, fun h => ?_⟩
    simp only [Bool.and_eq_true, beq_iff_eq] at h
    exact h.1.1.2
  obtain ⟨b, sw1, sw2⟩ := sw
  cases b with
  | false => exact ps_set w.nd n1 l1 hp sw1 l2
  | true =>
    have key := ps_setLc2 (pos := pos) (g := gT X.K tg) (g1 := gT X.K tg1) (vs1 := vs1) w.calm w.nd n1 (sw2 rfl) sw1 hi (blkOk_by hB) (by rw [own_nm]; exact fun i hi => by simpa using List.all_eq_true.mp hvv i hi) (fun s H C cl fp => tg_ok (X := X.blk s H scope (compEnvC scope cl C X.env) fp) w.calm blk_fn w.nd hT) hc hi1 (fun s H C cl fp => tg_ok (X := X.blk s H scope (compEnvC scope cl C X.env) fp) w.calm blk_fn w.nd hT1) hc1 he (notSet_fold hns) (fun env => notSet_fold hns1)
    rw [own_nm] at key
    exact key.imp fun D σ H h => comp2_rd hv hv1 hvv h
theorem comp2_lst {vs : List Nat} {tg : Bool × List Nat} {ik : IK} {ies : List E} {conds : List T} {vs1 : List Nat} {tg1 : Bool × List Nat} {ik1 : IK} {ies1 : List E} {conds1 : List T} {elt : E} : ∀ ρ d ρ', ev G (.comp2 vs tg ik ies conds vs1 tg1 ik1 ies1 conds1 elt) ρ = .ok (d, ρ') → ∃ xs, d = .lst xs := fun ρ d ρ' e => by
  unfold ev at e
  obtain ⟨⟨ds, ρ1⟩, e1, e2⟩ := Out.bind_inv e
  obtain ⟨items, e3, e4⟩ := Out.bind_inv e2
  have e4 : (if (vs.all fun v => !isOwn (getS ρ1 v)) = true ∧ isBrw ik = false ∧ isBrw ik1 = false then (compL (comp2F G vs tg conds vs1 tg1 ik1 ies1 conds1 elt) items (wipeP ρ1 vs)).bind fun r => if r.1.length < lim then Out.ok (D.lst r.1, backP ρ1 r.2 vs) else Out.bad else Out.bad) = Out.ok (d, ρ') := e4
  by_cases c : (vs.all fun v => !isOwn (getS ρ1 v)) = true ∧ isBrw ik = false ∧ isBrw ik1 = false
  · rw [if_pos c] at e4
    obtain ⟨⟨out, ρn⟩, e5, e6⟩ := Out.bind_inv e4
    have e6 : (if out.length < lim then Out.ok (D.lst out, backP ρ1 ρn vs) else Out.bad) = Out.ok (d, ρ') := e6
    by_cases c2 : out.length < lim
    · rw [if_pos c2] at e6; cases e6; exact ⟨_, rfl⟩
    · rw [if_neg c2] at e6; cases e6
  · rw [if_neg c] at e4; cases e4
theorem comp_lst {vs : List Nat} {tg : Bool × List Nat} {ik : IK} {ies : List E} {conds : List T} {elt : E} : ∀ ρ d ρ', ev G (.comp vs tg ik ies conds elt) ρ = .ok (d, ρ') → ∃ xs, d = .lst xs := fun ρ d ρ' e => by
  unfold ev at e
  obtain ⟨⟨ds, ρ1⟩, e1, e2⟩ := Out.bind_inv e
  obtain ⟨items, e3, e4⟩ := Out.bind_inv e2
  have e4 : (if (vs.all fun v => !isOwn (getS ρ1 v)) = true then (compL (compF G vs tg ik ρ1 conds elt) items (wipeP ρ1 vs)).bind fun r => if r.1.length < lim then Out.ok (D.lst r.1, backP ρ1 r.2 vs) else Out.bad else Out.bad) = Out.ok (d, ρ') := e4
  by_cases c : (vs.all fun v => !isOwn (getS ρ1 v)) = true
  · rw [if_pos c] at e4
    obtain ⟨⟨out, ρn⟩, e5, e6⟩ := Out.bind_inv e4
    have e6 : (if out.length < lim then Out.ok (D.lst out, backP ρ1 ρn vs) else Out.bad) = Out.ok (d, ρ') := e6
    by_cases c2 : out.length < lim
    · rw [if_pos c2] at e6; cases e6; exact ⟨_, rfl⟩
    · rw [if_neg c2] at e6; cases e6
  · rw [if_neg c] at e4; cases e4
end
end Px
set_option Elab.async false
set_option linter.all false
set_option maxRecDepth 100000
set_option maxHeartbeats 2000000
namespace Px
open PySem PySem.Spec PyProof.Rows L2
section
variable {G : Sig} {k : Nat}
structure Snd (G : Sig) (k : Nat) (n : Nat) : Prop where
  E : ∀ (X : Cx) (e : Expr) (i : Px.E), WX X G k → ckE n X.N X.env.scope i e = true → PE X e (tEv X.K (ev G i))
  P : ∀ (X : Cx) (e : Expr) (p : P) (as : List Ar), WX X G k → ckP n X.N X.env.scope p as e = true → PE X e (tPr (freshP p) X.K (ev G (.prim p as)))
  T : ∀ (X : Cx) (e : Expr) (t : Px.T), WX X G k → ckT n X.N X.env.scope t e = true → PT X e (tEvT X.K (evT G t))
  A : ∀ (X : Cx) (e : Expr) (a : Ar), WX X G k → ckA n X.N X.env.scope a e = true → PE X e (tAr X.K (opnd G a))
  As : ∀ (X : Cx) (es : List Expr) (as : List Ar), WX X G k → ckAs n X.N X.env.scope as es = true → PA X es (tArs X.K (opnds G as)) ∧ es.all notStar = true ∧ as.length = es.length
  Es : ∀ (X : Cx) (es : List Expr) (is : List Px.E), WX X G k → ckEs n X.N X.env.scope is es = true → PA X es (tEvs X.K (evs G is)) ∧ es.all notStar = true ∧ is.length = es.length ∧
    ∀ (c : Bool) (pos : Pos), PE X (.BoolOp (if c then .And else .Or) es pos) (tEv X.K (evB G c is))
  C : ∀ (X : Cx) (es : List Expr) (ts : List Px.T), WX X G k → ckC n X.N X.env.scope ts es = true → (∀ (c : Bool) (pos : Pos), PW X (.BoolOp (if c then .And else .Or) es pos) (tEvT X.K (evC G c ts))) ∧
    (ts.length ≤ 1 → PTs X es (tEvT X.K (evC G true ts)))
  I : ∀ (X : Cx) (tg e : Expr) (ik : IK) (is : List Px.E), WX X G k → ckI n X.N X.env.scope ik is e = true → PI X tg e (tIt X.K ik (evs G is)) ∧ notSet e = true
theorem evB_nil {X : Cx} {e : Expr} {c : Bool} : PE X e (tEv X.K (evB G c [])) := ⟨fun pins s σ H Q I h => by
  obtain ⟨fm, F, ρ, d, ρ', o, e, q⟩ := h
  unfold evB at e
  cases e⟩
theorem snd_all (G : Sig) (k : Nat) : ∀ n, Snd G k n
  | 0 => by
    constructor
    · intro X e i w h; unfold ckE at h; cases h
    · intro X e p as w h; unfold ckP at h; cases h
    · intro X e i w h; unfold ckT at h; cases h
    · intro X e i w h; unfold ckA at h; cases h
    · intro X e i w h; unfold ckAs at h; cases h
    · intro X e i w h; unfold ckEs at h; cases h
    · intro X e i w h; unfold ckC at h; cases h
    · intro X t e ik i w h; unfold ckI at h; cases h
  | n + 1 => by
    have S := snd_all G k n
    constructor
    · intro X e i w h
      unfold ckE at h
      split at h
      · rename_i hn; cases hn
      · rename_i hn; cases hn; exact var_ok h
      · rename_i hn; cases hn
        refine (conB_ok h).imp fun σ H Q h' => ?_
        obtain ⟨fm, F, ρ, d, ρ', o, e1, q⟩ := h'
        unfold ev at e1
        exact ⟨fm, F, ρ, d, ρ', o, e1, q⟩
      · rename_i hn; cases hn; exact pr_ev (S.P X _ _ _ w h)
      · rename_i hn; cases hn; exact dspT_ok (S.Es X _ _ w h).1
      · rename_i hn; cases hn; exact own_ev dsp_lst (dspL_ok (S.Es X _ _ w h).1)
      · rename_i hn; cases hn; exact bop_ok ((S.Es X _ _ w h).2.2.2 true _)
      · rename_i hn; cases hn; exact bop_ok ((S.Es X _ _ w h).2.2.2 false _)
      · rename_i hn; cases hn; exact not_ok (S.E X _ _ w h)
      · rename_i hn; cases hn
        simp only [Bool.and_eq_true] at h
        exact ite_ok (S.T X _ _ w h.1.1) (S.E X _ _ w h.1.2) (S.E X _ _ w h.2)
      · rename_i hn; cases hn
        simp only [Bool.and_eq_true, decide_eq_true_eq] at h
        obtain ⟨⟨h1, h2⟩, h3⟩ := h
        subst h1
        obtain ⟨a1, a2, a3⟩ := S.As X _ _ w h3
        exact callD_ok (call_ok w h2 a2 a3 a1)
      · rename_i hn; cases hn
        simp only [Bool.and_eq_true, decide_eq_true_eq] at h
        obtain ⟨⟨⟨⟨⟨⟨h1, h2⟩, h3⟩, h4⟩, h5⟩, h6⟩, h7⟩ := h
        obtain ⟨i1, i2⟩ := S.I X _ _ _ _ w h4
        exact own_ev comp_lst (comp_ok w h1 h2 h3 i2 i1 (fun s H C cl fp => (S.C (X.blk s H _ (compEnvC _ cl C X.env) fp) _ _ (w.blk s H _ C cl fp) h6).2 h5) (fun s H C cl fp => S.E (X.blk s H _ (compEnvC _ cl C X.env) fp) _ _ (w.blk s H _ C cl fp) h7))
      · rename_i hn; cases hn
        simp only [Bool.and_eq_true, decide_eq_true_eq] at h
        obtain ⟨⟨⟨⟨⟨⟨⟨⟨⟨⟨⟨⟨h1, h2⟩, h3⟩, h4⟩, h5⟩, h6⟩, h7⟩, h8⟩, h9⟩, h10⟩, h11⟩, h12⟩, h13⟩ := h
        obtain ⟨i1, i2⟩ := S.I X _ _ _ _ w h4
        have j2 := (S.I _ (.Tuple [] 0 ⟨0, 0, 0, 0⟩) _ _ _ (w.blk X.s_0 X.H_0 _ 0 [] []) h10).2
        exact own_ev comp2_lst (comp2_ok w h1 h2 h3 i2 i1 (fun s H C cl fp => (S.C (X.blk s H _ (compEnvC _ cl C X.env) fp) _ _ (w.blk s H _ C cl fp) h6).2 h5) h7 h8 h9 j2 (fun s H C cl fp => (S.I (X.blk s H _ (compEnvC _ cl C X.env) fp) _ _ _ _ (w.blk s H _ C cl fp) h10).1) (fun s H C cl fp => (S.C (X.blk s H _ (compEnvC _ cl C X.env) fp) _ _ (w.blk s H _ C cl fp) h12).2 h11) (fun s H C cl fp => S.E (X.blk s H _ (compEnvC _ cl C X.env) fp) _ _ (w.blk s H _ C cl fp) h13))
      · rename_i hn; cases hn
        simp only [Bool.and_eq_true, decide_eq_true_eq] at h
        obtain ⟨⟨⟨⟨⟨⟨h1, h2⟩, h3⟩, h4⟩, h5⟩, h6⟩, h7⟩ := h
        subst h1 h2
        exact chn_ok w.units h3 h4 (S.E X _ _ w h5) (S.E X _ _ w h6) (S.E X _ _ w h7)
      · rename_i hn; cases hn
        simp only [Bool.and_eq_true, decide_eq_true_eq] at h
        obtain ⟨⟨h1, h2⟩, h3⟩ := h
        subst h1
        obtain ⟨a1, a2, a3, _⟩ := S.Es X _ _ w h3
        exact make_ok w h2 a2 a3 a1
      · rename_i hn; cases hn
        simp only [Bool.and_eq_true, decide_eq_true_eq] at h
        obtain ⟨⟨⟨⟨⟨h1, h2⟩, h3⟩, h4⟩, h5⟩, h6⟩ := h
        subst h1
        obtain ⟨a1, a2, a3, _⟩ := S.Es X _ _ w h6
        exact methD_ok (meth_ok w h2 h3 h4 a2 a3 (S.E X _ _ w h5) a1)
      · rename_i hn; cases hn
        simp only [Bool.and_eq_true, decide_eq_true_eq] at h
        obtain ⟨⟨⟨⟨⟨h1, h2⟩, h3⟩, h4⟩, hs⟩, h5⟩ := h
        subst h1 h4
        exact isc_ok w h2 h3 hs (S.E X _ _ w h5)
      · rename_i hn; cases hn
        simp only [Bool.and_eq_true, decide_eq_true_eq] at h
        obtain ⟨⟨⟨⟨⟨h1, h2⟩, h3⟩, h4⟩, hs⟩, h5⟩ := h
        subst h1 h4
        exact isi_ok w h2 h3 hs (S.A X _ _ w h5)
      · cases h
    · intro X e p as w h
      unfold ckP at h
      split at h
      · rename_i hn; cases hn
      · rename_i hn; cases hn
        simp only [Bool.and_eq_true, decide_eq_true_eq] at h
        obtain ⟨⟨h1, h2⟩, h3⟩ := h
        subst h1
        exact bin_ok (S.A X _ _ w h2) (S.A X _ _ w h3)
      · rename_i hn; cases hn; exact neg_ok (S.A X _ _ w h)
      · rename_i hn; cases hn
        simp only [Bool.and_eq_true, decide_eq_true_eq] at h
        obtain ⟨⟨⟨h1, h2⟩, h3⟩, h4⟩ := h
        subst h1
        exact cmp_ok w.units h2 (S.A X _ _ w h3) (S.A X _ _ w h4)
      · rename_i hn; cases hn
        simp only [Bool.and_eq_true] at h
        exact ix_ok h.1.1 (S.A X _ _ w h.1.2) (S.A X _ _ w h.2)
      · rename_i hn; cases hn; exact sl0_ok (S.A X _ _ w h)
      · rename_i hn; cases hn
        simp only [Bool.and_eq_true] at h
        exact sl1_ok (S.A X _ _ w h.1) (S.A X _ _ w h.2)
      · rename_i hn; cases hn
        simp only [Bool.and_eq_true] at h
        exact sl2_ok (S.A X _ _ w h.1) (S.A X _ _ w h.2)
      · rename_i hn; cases hn
        simp only [Bool.and_eq_true] at h
        exact sl3_ok (S.A X _ _ w h.1.1) (S.A X _ _ w h.1.2) (S.A X _ _ w h.2)
      · rename_i hn; cases hn
        simp only [Bool.and_eq_true, decide_eq_true_eq] at h
        obtain ⟨⟨⟨⟨⟨h1, h2⟩, h2'⟩, h3⟩, h4⟩, h5⟩ := h
        subst h1
        exact mth_ok w h2 (S.E X _ _ w h2') h3 (S.A X _ _ w h4) h5
      · rename_i hn; cases hn
        simp only [Bool.and_eq_true, decide_eq_true_eq] at h
        obtain ⟨⟨h1, h2⟩, h3⟩ := h
        subst h1
        exact fld_ok h2 (S.A X _ _ w h3)
      · rename_i hn; cases hn; exact srev_ok (S.A X _ _ w h)
      · rename_i hn; cases hn
        simp only [Bool.and_eq_true, decide_eq_true_eq] at h
        obtain ⟨⟨⟨⟨⟨⟨h1, h2⟩, h3⟩, h4⟩, h5⟩, h6⟩, h7⟩ := h
        subst h2 h4
        exact bid_ok w h1 h3 h5 (S.A X _ _ w h6) (S.A X _ _ w h7)
      · rename_i hn; cases hn
        simp only [Bool.and_eq_true, decide_eq_true_eq] at h
        obtain ⟨⟨⟨⟨⟨h1, h2⟩, h3⟩, h4⟩, h5⟩, h6⟩ := h
        subst h1 h3
        exact trev_ok w h2 h4 h5 (S.A X _ _ w h6)
      · rename_i hn; cases hn
        simp only [Bool.and_eq_true, decide_eq_true_eq] at h
        obtain ⟨⟨h1, h2⟩, h3⟩ := h
        subst h1
        obtain ⟨a1, a2, a3⟩ := S.As X _ _ w h3
        exact bi_ok w h2 a2 a1
      · cases h
    · intro X e t w h
      unfold ckT at h
      split at h
      · rename_i hn; cases hn
      · rename_i hn; cases hn; exact cT_ok ((S.C X _ _ w h).1 true _)
      · rename_i hn; cases hn; exact cT_ok ((S.C X _ _ w h).1 false _)
      · rename_i hn; cases hn; exact nT_ok (S.T X _ _ w h)
      · rename_i hn; cases hn
        simp only [Bool.and_eq_true, decide_eq_true_eq] at h
        obtain ⟨⟨⟨⟨⟨⟨h1, h2⟩, h3⟩, h4⟩, h5⟩, h6⟩, h7⟩ := h
        subst h1 h2
        exact chnT_ok w.units h3 h4 (S.E X _ _ w h5) (S.E X _ _ w h6) (S.E X _ _ w h7)
      · rename_i hn; cases hn
        simp only [Bool.and_eq_true, decide_eq_true_eq] at h
        obtain ⟨⟨⟨h1, h2⟩, h3⟩, h4⟩ := h
        subst h1
        exact cmpT_ok w.units h2 (S.A X _ _ w h3) (S.A X _ _ w h4)
      · rename_i heq hn hn2; cases heq
        simp only [Bool.and_eq_true, Bool.not_eq_true'] at h
        exact val_ok h.1 (S.A X _ _ w h.2)
      · cases h
    · intro X e a w h
      unfold ckA at h
      split at h
      · rename_i hn; cases hn
      · rename_i hn; cases hn; exact slot_ok h
      · rename_i hn; cases hn; exact ex_ok (S.E X _ _ w h)
      · cases h
    · intro X es as w h
      unfold ckAs at h
      split at h
      · rename_i hn; cases hn
      · rename_i hn; cases hn; exact ⟨as_nil, rfl, rfl⟩
      · rename_i hn; cases hn
        simp only [Bool.and_eq_true] at h
        obtain ⟨a1, a2, a3⟩ := S.As X _ _ w h.2
        exact ⟨as_cons h.1.2 (S.A X _ _ w h.1.1) a1, by rw [List.all_cons, h.1.2, a2]; rfl, by simp [a3]⟩
      · cases h
    · intro X es is w h
      unfold ckEs at h
      split at h
      · rename_i hn; cases hn
      · rename_i hn; cases hn; exact ⟨es_nil, rfl, rfl, fun c pos => evB_nil⟩
      · rename_i hn; cases hn
        simp only [Bool.and_eq_true] at h
        obtain ⟨a1, a2, a3, a4⟩ := S.Es X _ _ w h.2
        refine ⟨es_cons h.1.2 (S.E X _ _ w h.1.1) a1, by rw [List.all_cons, h.1.2, a2]; rfl, by simp [a3], fun c pos => ?_⟩
        rename_i i is e es
        cases is with
        | nil =>
          cases es with
          | nil => exact bop_one (S.E X _ _ w h.1.1)
          | cons _ _ => simp at a3
        | cons i2 is =>
          cases es with
          | nil => simp at a3
          | cons e2 es => exact bop_cons (S.E X _ _ w h.1.1) (a4 c pos)
      · cases h
    · intro X es ts w h
      unfold ckC at h
      split at h
      · rename_i hn; cases hn
      · rename_i hn; cases hn
        exact ⟨fun c pos => c_nil, fun _ => ⟨fun pins s σ H Q I h => pts_nil.run pins s σ H Q I (by
          obtain ⟨fm, F, ρ, d, ρ', o, e, q⟩ := h
          unfold evC at e
          cases e
          exact q F H o (Ex.refl F))⟩⟩
      · rename_i hn; cases hn
        simp only [Bool.and_eq_true] at h
        obtain ⟨a1, a2⟩ := S.C X _ _ w h.2
        refine ⟨fun c pos => c_cons (S.T X _ _ w h.1) (a1 c pos), fun hl => ?_⟩
        rename_i t ts e es
        cases ts with
        | cons _ _ => simp at hl
        | nil =>
          have : es = [] := by
            cases es with
            | nil => rfl
            | cons _ _ =>
              have h2 := h.2
              cases n with
              | zero => unfold ckC at h2; cases h2
              | succ n => unfold ckC at h2; cases h2
          subst this
          exact ⟨fun pins s σ H Q I h' => (pts_one (S.T X _ _ w h.1)).run pins s σ H Q I (by
            obtain ⟨fm, F, ρ, d, ρ', o, e, q⟩ := h'
            unfold evC at e
            obtain ⟨⟨b, ρ1⟩, e1, e2⟩ := Out.bind_inv e
            refine ⟨fm, F, ρ, b, ρ1, o, e1, fun F' H' o' x' => ?_⟩
            cases b with
            | true => unfold evC at e2; cases e2; exact q F' H' o' x'
            | false => cases e2; exact q F' H' o' x')⟩
      · cases h
    · intro X tg e ik is w h
      unfold ckI at h
      split at h
      · rename_i hn; cases hn
      · rename_i x p1 xs p2 hn; cases hn
        simp only [Bool.and_eq_true, decide_eq_true_eq] at h
        obtain ⟨⟨⟨h1, h2⟩, h3⟩, h4⟩ := h
        subst h1
        obtain ⟨a1, a2, a3, _⟩ := S.Es X _ _ w h4
        refine ⟨?_, rfl⟩
        match xs, h3, a1, a2, a3 with
        | [x], _, a1, a2, a3 =>
          simp only [List.all_cons, List.all_nil, Bool.and_true] at a2
          exact rng1_ok w h2 a2 a1 (by simpa using a3)
        | [x, y], _, a1, a2, a3 =>
          simp only [List.all_cons, List.all_nil, Bool.and_true, Bool.and_eq_true] at a2
          exact rng2_ok w h2 a2.1 a2.2 a1 (by simpa using a3)
      · rename_i hn; cases hn
        simp only [Bool.and_eq_true] at h
        exact ⟨seq_ok (S.E X _ _ w h.2), h.1⟩
      · rename_i hn; cases hn
        exact ⟨brw_ok h, rfl⟩
      · rename_i a x p1 e p2 hn; cases hn
        simp only [Bool.and_eq_true, decide_eq_true_eq] at h
        obtain ⟨⟨⟨h1, h2⟩, h3⟩, h4⟩ := h
        subst h1
        exact ⟨rev_ok w h2 h3 (S.E X _ _ w h4), rfl⟩
      · rename_i x p1 xs p2 hn; cases hn
        simp only [Bool.and_eq_true, decide_eq_true_eq] at h
        obtain ⟨⟨⟨h1, h2⟩, h3⟩, h4⟩ := h
        subst h1
        obtain ⟨a1, a2, a3, _⟩ := S.Es X _ _ w h4
        refine ⟨?_, rfl⟩
        match xs, h3, a1, a2, a3 with
        | [x], _, a1, a2, a3 =>
          simp only [List.all_cons, List.all_nil, Bool.and_true] at a2
          exact dk_ok w h2 a2 a1
      · cases h
end
end Px
set_option Elab.async false
set_option linter.all false
set_option maxRecDepth 100000
set_option maxHeartbeats 2000000
namespace Px
open PySem PySem.Spec PyProof.Rows L2
section
variable {X : Cx} {G : Sig} {k : Nat} {x y z e : Expr} {as : List Ar} {pos : Pos}
/-! ### values of assignments and returns -/
theorem own_call_rd {K : PySem.W.Frag} {g : PEnv → Out (D × PEnv)} {σ : L2.St} {H : Hp} {Q : VK} (h : tCallS K (fun ρ => (g ρ).bind fun q => match q.1 with
    | .lst xs => .ok (.own xs, q.2)
    | _ => .bad) σ H Q) : tOwn K g σ H Q := by
  obtain ⟨fm, F, ρ, r, ρ', o, e, q⟩ := h
  obtain ⟨⟨d, ρ1⟩, e1, e2⟩ := Out.bind_inv e
  cases d <;> try (cases e2; done)
  cases e2
  exact ⟨fm, F, ρ, _, _, o, e1, fun v F' H' o' x' m => q v F' H' o' x' m⟩
theorem own_call {g : PEnv → Out (D × PEnv)} (h : PE X x (tOwn X.K g)) : PE X x (tCallS X.K fun ρ => (g ρ).bind fun q => match q.1 with
    | .lst xs => .ok (.own xs, q.2)
    | _ => .bad) := h.imp fun σ H Q h => own_call_rd h
theorem ev_call {g : PEnv → Out (D × PEnv)} (h : PE X x (tEv X.K g)) : PE X x (tCallS X.K fun ρ => (g ρ).bind fun q => .ok (.dat q.1, q.2)) := h.imp fun σ H Q h => by
  obtain ⟨fm, F, ρ, r, ρ', o, e, q⟩ := h
  obtain ⟨⟨d, ρ1⟩, e1, e2⟩ := Out.bind_inv e
  cases e2
  exact ⟨fm, F, ρ, _, _, o, e1, fun v F' H' o' x' m => q v F' H' o' x' m⟩
theorem pr_call {p : P} (h : PE X x (tPr (freshP p) X.K (ev G (.prim p as)))) : PE X x (tCallS X.K (evo G (.prim p as))) := h.imp fun σ H Q h => by
  obtain ⟨fm, F, ρ, r, ρ', o, e, q⟩ := h
  have e : ((ev G (.prim p as) ρ).bind fun q => match freshP p, q.1 with
    | true, .lst xs => Out.ok (Slot.own xs, q.2)
    | _, d => .ok (.dat d, q.2)) = .ok (r, ρ') := e
  obtain ⟨⟨d, ρ1⟩, e1, e2⟩ := Out.bind_inv e
  cases hf : freshP p with
  | false =>
    rw [hf] at e2
    cases e2
    refine ⟨fm, F, ρ, d, _, o, e1, fun F' H' o' x' => ?_⟩
    exact pres_of o' x' fun v F2 H2 o2 x2 r2 => q v F2 H2 o2 x2 r2
  | true =>
    rw [hf] at e2
    cases d with
    | lst xs =>
      cases e2
      refine ⟨fm, F, ρ, _, _, o, e1, fun F' H' o' x' => ⟨fun hh => absurd rfl (hh rfl xs), fun p vs ys hp hd r2 => ?_, fun p o vs ys hp ho hd r2 => by cases hd⟩⟩
      cases hd
      exact q _ _ _ (o'.newH (x := .lst vs) hp) x' (o'.mine hp r2)
    | non => cases e2; exact ⟨fm, F, ρ, _, _, o, e1, fun F' H' o' x' => pres_of o' x' fun v F2 H2 o2 x2 r2 => q v F2 H2 o2 x2 r2⟩
    | bl _ => cases e2; exact ⟨fm, F, ρ, _, _, o, e1, fun F' H' o' x' => pres_of o' x' fun v F2 H2 o2 x2 r2 => q v F2 H2 o2 x2 r2⟩
    | int _ => cases e2; exact ⟨fm, F, ρ, _, _, o, e1, fun F' H' o' x' => pres_of o' x' fun v F2 H2 o2 x2 r2 => q v F2 H2 o2 x2 r2⟩
    | str _ => cases e2; exact ⟨fm, F, ρ, _, _, o, e1, fun F' H' o' x' => pres_of o' x' fun v F2 H2 o2 x2 r2 => q v F2 H2 o2 x2 r2⟩
    | tup _ => cases e2; exact ⟨fm, F, ρ, _, _, o, e1, fun F' H' o' x' => pres_of o' x' fun v F2 H2 o2 x2 r2 => q v F2 H2 o2 x2 r2⟩
    | obj _ _ _ => cases e2; exact ⟨fm, F, ρ, _, _, o, e1, fun F' H' o' x' => pres_of o' x' fun v F2 H2 o2 x2 r2 => q v F2 H2 o2 x2 r2⟩
theorem var_call {i : Nat} {n : Str} (h : varB X.N X.env.scope i n = true) : PE X (.Name n pos) (tCallS X.K (evo G (.var i))) :=
  (varB_ok h).imp fun σ H Q h => by
    obtain ⟨fm, F, ρ, r, ρ', k, e, q⟩ := h
    have e : (match getS ρ i with
      | some (.dat d) => Out.ok (Slot.dat d, ρ)
      | some (.mo (.lst xs)) => .ok (.own xs, ρ.set i none)
      | _ => .bad) = .ok (r, ρ') := e
    cases c : getS ρ i with
    | none => rw [c] at e; cases e
    | some s =>
      rw [c] at e
      cases s with
      | dat d =>
        cases e
        obtain ⟨v, h1, h2⟩ := k.slot i _ c
        exact ⟨v, h1, q v F H k (Ex.refl F) h2⟩
      | mo w =>
        cases w with
        | ins c ns xs => cases e
        | lst xs =>
        cases e
        obtain ⟨v, h1, m⟩ := k.takeO c
        exact ⟨v, h1, q v F H (k.unset i) (Ex.refl F) m⟩
theorem evo_ok {n : Nat} (w : WX X G k) {i : E} (h : ckE n X.N X.env.scope i e = true) : PE X e (tCallS X.K (evo G i)) := by
  have S := snd_all G k
  cases n with
  | zero => unfold ckE at h; cases h
  | succ n =>
    have hE := (S (n + 1)).E X e i w h
    unfold ckE at h
    split at h
    · rename_i hn; cases hn
    · rename_i hn; cases hn; exact var_call h
    · exact ev_call hE
    · rename_i hn; cases hn; exact pr_call ((S n).P X _ _ _ w h)
    · exact ev_call hE
    · rename_i hn; cases hn; exact own_call (dspL_ok ((S n).Es X _ _ w h).1)
    · exact ev_call hE
    · exact ev_call hE
    · exact ev_call hE
    · exact ev_call hE
    · rename_i hn; cases hn
      simp only [Bool.and_eq_true, decide_eq_true_eq] at h
      obtain ⟨⟨h1, h2⟩, h3⟩ := h
      subst h1
      obtain ⟨a1, a2, a3⟩ := (S n).As X _ _ w h3
      exact call_ok w h2 a2 a3 a1
    · rename_i hn; cases hn
      simp only [Bool.and_eq_true, decide_eq_true_eq] at h
      obtain ⟨⟨⟨⟨⟨⟨h1, h2⟩, h3⟩, h4⟩, h5⟩, h6⟩, h7⟩ := h
      obtain ⟨i1, i2⟩ := (S n).I X _ _ _ _ w h4
      exact own_call (comp_ok w h1 h2 h3 i2 i1 (fun s H C cl fp => ((S n).C (X.blk s H _ (compEnvC _ cl C X.env) fp) _ _ (w.blk s H _ C cl fp) h6).2 h5) (fun s H C cl fp => (S n).E (X.blk s H _ (compEnvC _ cl C X.env) fp) _ _ (w.blk s H _ C cl fp) h7))
    · rename_i hn; cases hn
      simp only [Bool.and_eq_true, decide_eq_true_eq] at h
      obtain ⟨⟨⟨⟨⟨⟨⟨⟨⟨⟨⟨⟨h1, h2⟩, h3⟩, h4⟩, h5⟩, h6⟩, h7⟩, h8⟩, h9⟩, h10⟩, h11⟩, h12⟩, h13⟩ := h
      obtain ⟨i1, i2⟩ := (S n).I X _ _ _ _ w h4
      have j2 := ((S n).I _ (.Tuple [] 0 ⟨0, 0, 0, 0⟩) _ _ _ (w.blk X.s_0 X.H_0 _ 0 [] []) h10).2
      exact own_call (comp2_ok w h1 h2 h3 i2 i1 (fun s H C cl fp => ((S n).C (X.blk s H _ (compEnvC _ cl C X.env) fp) _ _ (w.blk s H _ C cl fp) h6).2 h5) h7 h8 h9 j2 (fun s H C cl fp => ((S n).I (X.blk s H _ (compEnvC _ cl C X.env) fp) _ _ _ _ (w.blk s H _ C cl fp) h10).1) (fun s H C cl fp => ((S n).C (X.blk s H _ (compEnvC _ cl C X.env) fp) _ _ (w.blk s H _ C cl fp) h12).2 h11) (fun s H C cl fp => (S n).E (X.blk s H _ (compEnvC _ cl C X.env) fp) _ _ (w.blk s H _ C cl fp) h13))
    · exact ev_call hE
    · exact ev_call hE
    · rename_i hn; cases hn
      simp only [Bool.and_eq_true, decide_eq_true_eq] at h
      obtain ⟨⟨⟨⟨⟨h1, h2⟩, h3⟩, h4⟩, h5⟩, h6⟩ := h
      subst h1
      obtain ⟨a1, a2, a3, _⟩ := (S n).Es X _ _ w h6
      exact meth_ok w h2 h3 h4 a2 a3 ((S n).E X _ _ w h5) a1
    · exact ev_call hE
    · exact ev_call hE
    · cases h

/-! ### statements -/
def Keep (ws : List Nat) (σ σ' : L2.St) : Prop := ∀ j, j ∉ ws → σ'[j]? = σ[j]?
theorem Keep.refl {ws : List Nat} {σ : L2.St} : Keep ws σ σ := fun _ _ => rfl
theorem Keep.trans {ws : List Nat} {σ σ1 σ2 : L2.St} (a : Keep ws σ σ1) (b : Keep ws σ1 σ2) : Keep ws σ σ2 := fun j h => (b j h).trans (a j h)
theorem Keep.mono {ws us : List Nat} {σ σ1 : L2.St} (a : Keep ws σ σ1) (h : ∀ i ∈ ws, i ∈ us) : Keep us σ σ1 := fun j hj => a j fun z => hj (h j z)
def FlwEnd (K : PySem.W.Frag) (fm : Fm) (F : Hp) (ws : List Nat) (σ : L2.St) (ρ' : PEnv) (D : Ends) : Flw → Prop
  | .nx => ∀ σ' F' H', OK K fm F' ρ' σ' H' → Ex F F' → Keep ws σ σ' → D.nx σ' H'
  | .brk => ∀ σ' F' H', OK K fm F' ρ' σ' H' → Ex F F' → Keep ws σ σ' → D.bk σ' H'
  | .cnt => ∀ σ' F' H', OK K fm F' ρ' σ' H' → Ex F F' → Keep ws σ σ' → D.ct σ' H'
  | .ret s => ∀ v σ' F' H', OK K fm F' ρ' σ' H' → Ex F F' → Keep ws σ σ' → SlotRes K fm F' ρ' σ' H' v s → D.rt v H'
def tS (K : PySem.W.Frag) (ws : List Nat) (g : PEnv → Out (Flw × PEnv)) : TS := fun D σ H => ∃ fm F ρ f ρ', OK K fm F ρ σ H ∧ g ρ = .ok (f, ρ') ∧ FlwEnd K fm F ws σ ρ' D f
theorem FlwEnd.from {K : PySem.W.Frag} {fm : Fm} {F F1 : Hp} {ws us : List Nat} {σ σ1 : L2.St} {ρ' : PEnv} {D : Ends} {f : Flw} (q : FlwEnd K fm F ws σ ρ' D f) (e : Ex F F1) (kp : Keep ws σ σ1) (h : ∀ i ∈ us, i ∈ ws) : FlwEnd K fm F1 us σ1 ρ' D f := by
  cases f with
  | nx => exact fun σ' F' H' o x k' => q σ' F' H' o (e.trans x) (kp.trans (k'.mono h))
  | brk => exact fun σ' F' H' o x k' => q σ' F' H' o (e.trans x) (kp.trans (k'.mono h))
  | cnt => exact fun σ' F' H' o x k' => q σ' F' H' o (e.trans x) (kp.trans (k'.mono h))
  | ret s => exact fun v σ' F' H' o x k' r => q v σ' F' H' o (e.trans x) (kp.trans (k'.mono h)) r
theorem keep_set {i : Nat} {v : Option V} {ws : List Nat} {σ : L2.St} (h : i ∈ ws) : Keep ws σ (σ.set i v) := fun j hj => by
  rw [List.getElem?_set_ne (fun z => hj (by rw [← z]; exact h))]
/-- the slot i holds what comes -/
theorem OK.setS {K : PySem.W.Frag} {fm : Fm} {F H : Hp} {ρ : PEnv} {σ : L2.St} (o : OK K fm F ρ σ H) {i : Nat} {v : V} {s : Slot} (r : SlotRes K fm F ρ σ H v s) : OK K fm F (ρ.set i (some s)) (σ.set i (some v)) H := by
  cases s with
  | dat d => exact o.setD r
  | mo xs => exact o.setO r
/-- name = e, by its reading -/
theorem set_rd {i : Nat} {x' : E} {t : TE} (ht : ∀ {σ : L2.St} {H : Hp} {Q : VK}, tCallS X.K (evo G x') σ H Q → t σ H Q) {D : Ends} {σ : L2.St} {H : Hp} (h : tS X.K [i] (ex G (.set true i x')) D σ H) : tAsg t (gName i) D σ H := by
  obtain ⟨fm, F, ρ, f, ρ', o, e, q⟩ := h
  unfold ex at e
  obtain ⟨⟨s, ρ1⟩, e1, e2⟩ := Out.bind_inv e
  cases e2
  exact ht ⟨fm, F, ρ, s, ρ1, o, e1, fun v F' H' o' x' r => q _ F' H' (o'.setS r) x' (keep_set (by simp))⟩
theorem setD_rd {i : Nat} {x' : E} {t : TE} (ht : ∀ {σ : L2.St} {H : Hp} {Q : VK}, tEv X.K (ev G x') σ H Q → t σ H Q) {D : Ends} {σ : L2.St} {H : Hp} (h : tS X.K [i] (ex G (.set false i x')) D σ H) : tAsg t (gName i) D σ H := by
  obtain ⟨fm, F, ρ, f, ρ', o, e, q⟩ := h
  unfold ex at e
  obtain ⟨⟨d, ρ1⟩, e1, e2⟩ := Out.bind_inv e
  cases e2
  exact ht ⟨fm, F, ρ, d, ρ1, o, e1, fun v F' H' o' x' r => q _ F' H' (o'.setD r) x' (keep_set (by simp))⟩
def notComp : Expr → Bool
  | .ListComp _ _ _ _ => false
  | .SetComp _ _ _ _ => false
  | .DictComp _ _ _ _ _ => false
  | _ => true
theorem notComp_sw {t : Option Expr} {l : Nat} {env : Env} (h : notComp x = true) : swapsWith x t l env = pure false := by
  cases x <;> first | rfl | (simp [notComp] at h; done)
/-- stores of tuples that the compiler doesn't swap -/
def noSwap (sc : Scope) (ts : List Expr) : Expr → Bool
  | .Tuple vs _ _ => vs.all (foldedForSure 8) || decide ((ts.filterMap fun
    | .Name id pos => if sc.names.lookup id == some .local && pos.line == (ts.head?.map (·.pos.line)).getD 0 then some id else none
    | _ => none).length ≠ ts.length)
  | _ => true
theorem noSwap_ok {ts : List Expr} {kt : Nat} {pt : Pos} (h : noSwap X.env.scope ts x = true) : swappedStores [.Tuple ts kt pt] x X.env = pure none := by
  unfold swappedStores
  cases x <;> try rfl
  rename_i vs k2 p2
  unfold noSwap at h
  simp only [Bool.or_eq_true, decide_eq_true_eq] at h
  simp only
  split
  · rfl
  · split
    · rfl
    · split
      · rfl
      · rename_i hn
        rcases h with h | h
        · rw [if_pos h]
        · exfalso
          apply hn
          simp only [Bool.or_eq_true, bne_iff_ne]
          left
          exact h
end
end Px
set_option Elab.async false
set_option linter.all false
set_option maxRecDepth 100000
set_option maxHeartbeats 2000000
namespace Px
open PySem PySem.Spec PyProof.Rows L2
def isC1 : Expr → Bool
  | .ListComp _ [⟨_, _, _, 0⟩] _ _ => true
  | .ListComp _ [⟨_, _, _, 0⟩, ⟨_, _, _, 0⟩] _ _ => true
  | _ => false
mutual
def ckS : Nat → List Str → Scope → S → Stmt → Bool
  | 0, _, _, _, _ => false
  | n + 1, N, sc, .set _ i e, .Assign [.Name x p] ex _ => ckT1 N sc i (.Name x p) && ckE n N sc e ex && (notComp ex || isC1 ex)
  | n + 1, N, sc, .upk is e, .Assign [.Tuple es _ _] ex _ => ckTs N sc is es && ckE n N sc e ex && notComp ex && noSwap sc es ex
  | n + 1, N, sc, .par _ i _ j a b, .Assign [.Tuple [.Name x px, .Name y py] _ _] (.Tuple [ax, bx] _ _) _ => decide (N[i]? = some x) && decide (N[j]? = some y) && decide (i ≠ j) && decide (sc.names.lookup x = some .local) && decide (sc.names.lookup y = some .local) &&
    decide (px.line = py.line) && decide (x ≠ y) && !([ax, bx].all (foldedForSure 8)) && !([ax, bx].all (constantsAlone 8)) && notStar ax && notStar bx && ckE n N sc a ax && ckE n N sc b bx
  | n + 1, N, sc, .aug i op e, .AugAssign (.Name x p) op' ex _ => decide (op = op') && ckT1 N sc i (.Name x p) && ckE n N sc e ex
  | n + 1, N, sc, .seti i ix e, .Assign [.Subscript (.Name x _) ixx _] ex _ => varB N sc i x && ckE n N sc ix ixx && notSlice ixx && ckE n N sc e ex && notComp ex
  | n + 1, N, sc, .app i e, .Expr (.Call (.Attribute (.Name x _) at' apos) [ex] [] cpos) _ => decide (at' = "append") && varB N sc i x && ckE n N sc e ex && notStar ex && (apos.endLine == cpos.line)
  | n + 1, N, sc, .ext i e, .Expr (.Call (.Attribute (.Name x _) at' apos) [ex] [] cpos) _ => decide (at' = "extend") && varB N sc i x && ckE n N sc e ex && notStar ex && (apos.endLine == cpos.line)
  | n + 1, N, sc, .drop e, .Expr ex _ => ckE n N sc e ex && notComp ex
  | n + 1, N, sc, .ret e, .Return (some ex) _ => ckE n N sc e ex
  | n + 1, _, _, .retN, .Return none _ => true
  | n + 1, N, sc, .ite c a b, .If cx ax bx _ => ckT n N sc c cx && ckSs n N sc a ax && ckSs n N sc b bx
  | n + 1, N, sc, .loop tg ik ies body, .For tgx iterx bodyx [] _ => ckTg N sc tg tgx && ckI n N sc ik ies iterx && ckSs n N sc body bodyx
  | n + 1, N, sc, .whil c body, .While cx bodyx [] _ => ckT n N sc c cx && ckSs n N sc body bodyx
  | n + 1, _, _, .brk, .Break _ => true
  | n + 1, _, _, .cnt, .Continue _ => true
  | n + 1, _, _, .nop, .Pass _ => true
  | n + 1, _, _, .never, _ => true
  | n + 1, N, sc, .junk i a b, .Assign [.Name x p] (.Dict [some ax] [bx] _) _ => ckT1 N sc i (.Name x p) && ckE n N sc a ax && ckE n N sc b bx
  | n + 1, N, sc, .setf i f e, .Assign [.Attribute (.Name x _) f' _] ex _ => decide (f' = f) && varB N sc i x && ckE n N sc e ex && notComp ex
  | n + 1, N, sc, .swp i i1 j i2 e, .Assign [.Tuple [.Subscript (.Name x px) ix qx, .Subscript (.Name y py) iy qy] kt pt] ex _ => varB N sc i x && varB N sc j y && ckE n N sc i1 ix && ckE n N sc i2 iy && notSlice ix && notSlice iy && ckE n N sc e ex && notComp ex && noSwap sc [.Subscript (.Name x px) ix qx, .Subscript (.Name y py) iy qy] ex
  | _, _, _, _, _ => false
def ckSs : Nat → List Str → Scope → List S → List Stmt → Bool
  | 0, _, _, _, _ => false
  | n + 1, _, _, [], [] => true
  | n + 1, N, sc, s :: ss, t :: ts => ckS n N sc s t && ckSs n N sc ss ts
  | _, _, _, _, _ => false
end
structure WS (X : Cx) (G : Sig) (k : Nat) : Prop where
  w : WX X G k
  fn : FnL X X.env.scope
  xe : X.xe = fun _ _ => False
  kd : X.env.scope.kind = .function
section
variable {X : Cx} {G : Sig} {k : Nat} {x y z e : Expr} {as : List Ar} {pos : Pos}
theorem ret_rd {i : E} {D : Ends} {σ : L2.St} {H : Hp} (h : tS X.K [] (ex G (.ret i)) D σ H) : tRet (tCallS X.K (evo G i)) D σ H := by
  obtain ⟨fm, F, ρ, f, ρ', o, e, q⟩ := h
  unfold ex at e
  obtain ⟨⟨s, ρ1⟩, e1, e2⟩ := Out.bind_inv e
  cases e2
  exact ⟨fm, F, ρ, s, ρ1, o, e1, fun v F' H' o' x' r => q v σ F' H' o' x' Keep.refl r⟩
theorem drop_rd {i : E} {D : Ends} {σ : L2.St} {H : Hp} (h : tS X.K [] (ex G (.drop i)) D σ H) : tDrop (tEv X.K (ev G i)) D σ H := by
  obtain ⟨fm, F, ρ, f, ρ', o, e, q⟩ := h
  unfold ex at e
  obtain ⟨⟨s, ρ1⟩, e1, e2⟩ := Out.bind_inv e
  cases e2
  exact ⟨fm, F, ρ, s, ρ1, o, e1, fun v F' H' o' x' r => q σ F' H' o' x' Keep.refl⟩
theorem upk_rd {is : List Nat} {i : E} {D : Ends} {σ : L2.St} {H : Hp} (h : tS X.K is (ex G (.upk is i)) D σ H) : tAsg (tEv X.K (ev G i)) (gTup X.K is.length (gTs is)) D σ H := by
  obtain ⟨fm, F, ρ, f, ρ', o, e, q⟩ := h
  unfold ex at e
  obtain ⟨⟨s, ρ1⟩, e1, e2⟩ := Out.bind_inv e
  obtain ⟨ρ2, e3, e4⟩ := Out.bind_inv e2
  cases e4
  exact ⟨fm, F, ρ, s, ρ1, o, e1, fun v F' H' o' x' r => setT_ok (t := (true, is)) o' r (Out.of_ok e3) fun σ2 o2 _ k2 => q σ2 F' H' o2 x' k2⟩
theorem evc_ok {n : Nat} (w : WX X G k) {o : Bool} {i : E} (h : ckE n X.N X.env.scope i e = true) : PE X e (tCallS X.K (evc G o i)) := by
  cases o with
  | true => exact evo_ok w h
  | false => exact ev_call ((snd_all G k n).E X e i w h)
theorem par_rd {oi oj : Bool} {i j : Nat} {a b : E} (hij : i ≠ j) {D : Ends} {σ : L2.St} {H : Hp} (h : tS X.K [i, j] (ex G (.par oi i oj j a b)) D σ H) : tPar i j (tCons (tCallS X.K (evc G oi a)) (tCons (tCallS X.K (evc G oj b)) tNil)) D σ H := by
  obtain ⟨fm, F, ρ, f, ρ', o, e, q⟩ := h
  unfold ex at e
  obtain ⟨⟨s, ρ1⟩, e1, e2⟩ := Out.bind_inv e
  obtain ⟨⟨t, ρ2⟩, e3, e4⟩ := Out.bind_inv e2
  cases e4
  have kp : ∀ v w, Keep [i, j] σ ((σ.set i v).set j w) := fun v w => (keep_set (by simp)).trans (keep_set (by simp))
  refine ⟨fm, F, ρ, s, ρ1, o, e1, fun v F1 H1 o1 x1 r1 => ?_⟩
  cases s with
  | dat d =>
    refine ⟨fm, F1, ρ1, t, ρ2, o1, e3, fun w F2 H2 o2 x2 r2 => ⟨v, w, rfl, ?_⟩⟩
    have o3 := o2.setD (i := i) (Rep.mono x2 r1)
    have r2' : SlotRes X.K fm F2 (ρ2.set i (some (.dat d))) (σ.set i (some v)) H2 w t := by
      cases t with
      | dat d2 => exact r2
      | mo ys =>
        obtain ⟨p, vs, rfl, b1, b2, b3, b4, b5⟩ := r2
        refine ⟨p, vs, rfl, b1, b2, b3, b4, fun m zs hm => ?_⟩
        by_cases c : m = i
        · subst c
          have hl := (getS_some hm).1
          rw [List.length_set] at hl
          rw [getS_set hl, if_pos rfl] at hm
          cases hm
        · rw [getS_set_ne c] at hm
          rw [List.getElem?_set_ne (Ne.symm c)]
          exact b5 m zs hm
    exact q _ F2 H2 (o3.setS (i := j) r2') (x1.trans x2) (kp _ _)
  | mo xs =>
    obtain ⟨p, vs, rfl, b1, b2, b3, b4, b5⟩ := r1
    refine ⟨fm.keep p vs, F1, ρ1, t, ρ2, o1.keep b2 b3 b5, e3, fun w F2 H2 o2 x2 r2 => ⟨.ref p, w, rfl, ?_⟩⟩
    obtain ⟨o3, f3, h3, n3⟩ := o2.unkeep b1
    have m1 : Mine X.K fm F2 ρ2 σ H2 (.ref p) xs := ⟨p, vs, rfl, b1, f3, h3, b4.mono x2, n3⟩
    have o4 := o3.setO (i := i) m1
    have r2' : SlotRes X.K fm F2 (ρ2.set i (some (.mo xs))) (σ.set i (some (.ref p))) H2 w t := by
      cases t with
      | dat d2 => exact r2
      | mo ys =>
        obtain ⟨p2, ws, rfl, c1, c2, c3, c4, c5⟩ := r2
        have hne : p2 ≠ p := fun z => by
          have c1' : L2.upd fm.B p vs p2 = none := c1
          rw [z, upd_same] at c1'; cases c1'
        have c1' : L2.upd fm.B p vs p2 = none := c1
        rw [upd_ne hne] at c1'
        refine ⟨p2, ws, rfl, c1', c2, c3, c4, fun m zs hm => ?_⟩
        by_cases c : m = i
        · subst c
          have hl := (getS_some hm).1
          rw [List.length_set] at hl
          rw [List.getElem?_set_self (by rw [← o3.len]; exact hl)]
          intro z; cases z; exact hne rfl
        · rw [getS_set_ne c] at hm
          rw [List.getElem?_set_ne (Ne.symm c)]
          exact c5 m zs hm
    exact q _ F2 H2 (o4.setS (i := j) r2') (x1.trans x2) (kp _ _)
def rAug (K : PySem.W.Frag) (op : Operator) : TIp := fun x y H Q => ∃ F a b d, Ex F H ∧ Rep K F x a ∧ Rep K F y b ∧ augF op a b = some d ∧ (∀ v, Rep K F v d → Q v H) ∧ ∀ q (o : Obj) vs xs, H q = none → o.dict = none → d = .tup xs → RepAll K F vs xs → Q (.ref q) (upd H q (.frz o (.tup vs)))
theorem ip_aug (op : Operator) : PIp X op (rAug X.K op) := by
  intro pins s σ H x y v u Q I rx ry h
  obtain ⟨F, a, b, d, ex, ha, hb, hd, q⟩ := h
  unfold augF at hd
  split at hd
  · cases ha; cases hb
    cases op <;> simp only at hd <;> try (cases hd; done)
    · cases hd; exact iop_add pins s σ H _ _ v u Q I rx ry ⟨_, _, rfl, rfl, q.1 _ (.int _)⟩
    · cases hd; exact iop_sub pins s σ H _ _ v u Q I rx ry ⟨_, _, rfl, rfl, q.1 _ (.int _)⟩
    · split at hd
      · rename_i hc
        cases hd
        obtain ⟨t, rfl⟩ := rx
        obtain ⟨t', rfl⟩ := ry
        exact imul_int (show EP X pins σ Q _ _ from ⟨.int _, H, I.tok _, ⟨_, rfl⟩, q.1 _ (.int _)⟩) (CMulW.ok hc)
      · cases hd
    · split at hd
      · rename_i hc; cases hd; exact iop_mod pins s σ H _ _ v u Q I rx ry ⟨_, _, rfl, rfl, hc, q.1 _ (.int _)⟩
      · cases hd
    · split at hd
      · rename_i hc; cases hd; exact iop_shr pins s σ H _ _ v u Q I rx ry ⟨_, _, rfl, rfl, hc, q.1 _ (.int _)⟩
      · cases hd
    · split at hd
      · rename_i hc; cases hd; exact iop_fdivW pins s σ H _ _ v u Q I rx ry ⟨_, _, rfl, rfl, hc, q.1 _ (.int _)⟩
      · cases hd
  · cases op <;> simp only at hd <;> try (cases hd; done)
    split at hd
    · rename_i hc
      cases hd
      obtain ⟨p, vs, rfl, hp, r1⟩ := RepO.tup ex (.inl ha)
      obtain ⟨p2, ws, rfl, hp2, r2⟩ := RepO.tup ex (.inl hb)
      refine iop_catN pins s σ H _ _ v u Q I rx ry ⟨p, p2, vs, ws, rfl, rfl, hp, hp2, ?_, fun e => ?_, fun e1 e2 => ?_, fun e1 e2 p o hp ho => ?_⟩
      · rw [r1.length, r2.length, ← lim_eq]; exact hc
      · subst e; cases r1; exact q.1 _ hb
      · subst e2; cases r2; exact q.1 _ (by simpa using ha)
      · exact q.2 _ _ _ _ hp ho rfl (r1.app r2)
    · cases hd
  · cases hd
theorem aug_rd {i : Nat} {op : Operator} {a : E} {D : Ends} {σ : L2.St} {H : Hp} (h : tS X.K [i] (ex G (.aug i op a)) D σ H) : tAug i (tEv X.K (ev G a)) (rAug X.K op) D σ H := by
  obtain ⟨fm, F, ρ, f, ρ', o, e, q⟩ := h
  unfold ex at e
  split at e
  · rename_i d hs
    obtain ⟨⟨t, ρ1⟩, e1, e2⟩ := Out.bind_inv e
    obtain ⟨z, e3, e4⟩ := Out.bind_inv e2
    cases e4
    obtain ⟨v, h1, h2⟩ := o.slot i _ hs
    exact ⟨v, h1, fm, F, ρ, t, ρ1, o, e1, fun w F1 H1 o1 x1 r1 => ⟨F1, d, t, z, o1.exF, Rep.mono x1 h2, r1, Out.of_ok e3, fun v' r' => q _ F1 H1 (o1.setD r') x1 (keep_set (by simp)), fun p ob vs xs hp ho hd r => by
      obtain ⟨o2, x2⟩ := o1.frozen (x := .frz ob (.tup vs)) hp
      subst hd
      exact q _ _ _ (o2.setD (.tup ⟨ob, upd_same, ho⟩ (r.mono x2))) (x1.trans x2) (keep_set (by simp))⟩⟩
  · cases e
theorem mine_of {K : PySem.W.Frag} {fm : Fm} {F H : Hp} {ρ : PEnv} {σ : L2.St} (o : OK K fm F ρ σ H) {i : Nat} {xs : List D} (h : getS ρ i = some (.own xs)) {v : V} (hv : σ[i]? = some (some v)) : ∃ p vs, v = .ref p ∧ fm.B p = none ∧ F p = none ∧ H p = some (.lst vs) ∧ RepAll K F vs xs ∧
    ∀ j ys, j ≠ i → getS ρ j = some (.mo ys) → σ[j]? ≠ some (some (.ref p)) := by
  obtain ⟨w, h1, p, _, rfl, b1, b2, b3, vs, rfl, b4⟩ := o.slot i _ h
  rw [hv] at h1; cases h1
  exact ⟨p, vs, rfl, b1, b2, b3, b4, fun j ys hj e => by rw [← hv]; exact o.inj j i ys _ hj e h⟩
/-- a list of our own has changed -/
theorem OK.chgS {K : PySem.W.Frag} {fm : Fm} {F H : Hp} {ρ : PEnv} {σ : L2.St} (o : OK K fm F ρ σ H) {i : Nat} {p : Addr} {vs : List V} {xs ys : List D} (h : getS ρ i = some (.own ys)) (hv : σ[i]? = some (some (.ref p))) (b1 : fm.B p = none) (b2 : F p = none) (r : RepAll K F vs xs)
    (hn : ∀ j zs, j ≠ i → getS ρ j = some (.mo zs) → σ[j]? ≠ some (some (.ref p))) : OK K fm F (ρ.set i (some (.own xs))) σ (L2.upd H p (.lst vs)) := by
  have o1 : OK K fm F (ρ.set i none) σ (L2.upd H p (.lst vs)) := (o.unset i).chg b1 b2 fun j zs e => by
    obtain ⟨c, e⟩ := getS_set_none e
    exact hn j zs c e
  have m : Mine K fm F (ρ.set i none) σ (L2.upd H p (.lst vs)) (.ref p) (.lst xs) := ⟨p, _, rfl, b1, b2, upd_same, ⟨vs, rfl, r⟩, fun j zs e => by
    obtain ⟨c, e⟩ := getS_set_none e
    exact hn j zs c e⟩
  have o2 := o1.setO (i := i) m
  have hσ : σ.set i (some (V.ref p)) = σ := by
    obtain ⟨hlt, he⟩ := List.getElem?_eq_some_iff.mp hv
    rw [← he]; exact List.set_getElem_self hlt
  rw [hσ] at o2
  rwa [List.set_set] at o2
theorem isOwn_some {s : Option Slot} (h : isOwnL s = true) : ∃ xs, s = some (.own xs) := by
  unfold isOwnL at h
  split at h
  · exact ⟨_, rfl⟩
  · cases h
theorem seti_rd {i : Nat} {a b : E} {D : Ends} {σ : L2.St} {H : Hp} (h : tS X.K [] (ex G (.seti i a b)) D σ H) : tAsg (tEv X.K (ev G b)) (gSub (tVar i) (tEv X.K (ev G a)) rSetL) D σ H := by
  obtain ⟨fm, F, ρ, f, ρ', o, e, q⟩ := h
  unfold ex at e
  obtain ⟨⟨t, ρ1⟩, e1, e2⟩ := Out.bind_inv e
  split at e2
  · rename_i ho
    obtain ⟨xs0, hx0⟩ := isOwn_some ho
    obtain ⟨⟨u, ρ2⟩, e3, e4⟩ := Out.bind_inv e2
    split at e4
    · rename_i xs kk hs hu
      have hu' : u = .int kk := hu
      subst hu'
      obtain ⟨ys, e5, e6⟩ := Out.bind_inv e4
      cases e6
      have e5' := Out.of_ok e5
      unfold setAt at e5'
      simp only [Option.map_eq_some_iff] at e5'
      obtain ⟨j, hj, rfl⟩ := e5'
      refine ⟨fm, F, ρ, t, ρ1, o, e1, fun w F1 H1 o1 x1 r1 => ?_⟩
      obtain ⟨v, hv, _⟩ := o1.slot i _ hx0
      refine ⟨v, hv, fm, F1, ρ1, _, ρ2, o1, e3, fun w2 F2 H2 o2 x2 r2 => ?_⟩
      cases r2
      obtain ⟨p, vs, rfl, b1, b2, b3, b4, b5⟩ := mine_of o2 hs hv
      refine ⟨p, vs, kk, j, rfl, rfl, b3, by rw [b4.length]; exact hj, ?_⟩
      exact q σ F2 _ (o2.chgS hs hv b1 b2 (b4.set j (r1.mono x2)) b5) (x1.trans x2) Keep.refl
    · cases e4
  · cases e2
theorem app_rd {i : Nat} {a : E} {D : Ends} {σ : L2.St} {H : Hp} (h : tS X.K [] (ex G (.app i a)) D σ H) : tDrop (tBM X.K "list" rAppend (tVar i) (tCons (tEv X.K (ev G a)) tNil)) D σ H := by
  obtain ⟨fm, F, ρ, f, ρ', o, e, q⟩ := h
  unfold ex at e
  split at e
  · rename_i ho
    obtain ⟨xs0, hx0⟩ := isOwn_some ho
    obtain ⟨⟨t, ρ1⟩, e1, e2⟩ := Out.bind_inv e
    split at e2
    · rename_i xs hs
      split at e2
      · rename_i hlen
        cases e2
        obtain ⟨v, hv, p, _, rfl, b1, b2, b3, vs, rfl, b4⟩ := o.slot i _ hx0
        refine ⟨_, hv, .inl ⟨rfl, vs, SqL.of b3⟩, fm, F, ρ, t, ρ1, o, e1, fun w F1 H1 o1 x1 r1 => ?_⟩
        obtain ⟨p', vs', hp', c1, c2, c3, c4, c5⟩ := mine_of o1 hs hv
        cases hp'
        refine ⟨p, vs', w, rfl, rfl, c3, by rw [c4.length, ← lim_eq]; exact hlen, ?_⟩
        exact q σ F1 _ (o1.chgS hs hv c1 c2 (c4.app (.one r1)) c5) x1 Keep.refl
      · cases e2
    · cases e2
  · cases e
/-- a thing of our own has changed -/
theorem OK.chgO {K : PySem.W.Frag} {fm : Fm} {F H : Hp} {ρ : PEnv} {σ : L2.St} (o : OK K fm F ρ σ H) {i : Nat} {p : Addr} {u : HO} {w w0 : Own} (h : getS ρ i = some (.mo w0)) (hv : σ[i]? = some (some (.ref p))) (b1 : fm.B p = none) (b2 : F p = none) (r : OwnC K F w u)
    (hn : ∀ j zs, j ≠ i → getS ρ j = some (.mo zs) → σ[j]? ≠ some (some (.ref p))) : OK K fm F (ρ.set i (some (.mo w))) σ (L2.upd H p u) := by
  have o1 : OK K fm F (ρ.set i none) σ (L2.upd H p u) := (o.unset i).chg b1 b2 fun j zs e => by
    obtain ⟨c, e⟩ := getS_set_none e
    exact hn j zs c e
  have m : Mine K fm F (ρ.set i none) σ (L2.upd H p u) (.ref p) w := ⟨p, _, rfl, b1, b2, upd_same, r, fun j zs e => by
    obtain ⟨c, e⟩ := getS_set_none e
    exact hn j zs c e⟩
  have o2 := o1.setO (i := i) m
  have hσ : σ.set i (some (V.ref p)) = σ := by
    obtain ⟨hlt, he⟩ := List.getElem?_eq_some_iff.mp hv
    rw [← he]; exact List.set_getElem_self hlt
  rw [hσ] at o2
  rwa [List.set_set] at o2
theorem putF_new {f : Str} {w : V} : ∀ {ns : List Str} {vs : List V}, ns.contains f = false → ns.length = vs.length → putF f w (ns.zip vs) = (ns ++ [f]).zip (vs ++ [w])
  | [], [], _, _ => rfl
  | [], _ :: _, _, h => by simp at h
  | _ :: _, [], _, h => by simp at h
  | n :: ns, v :: vs, h, hl => by
    rw [List.contains_cons, Bool.or_eq_false_iff] at h
    have hne : ¬ n = f := fun z => by have := h.1; rw [z] at this; simp at this
    simp only [List.zip_cons_cons, List.cons_append, putF, if_neg hne]
    rw [putF_new h.2 (by simpa using hl)]
theorem setf_rd (w : WX X G k) {i : Nat} {f : Str} {a : E} {D : Ends} {σ : L2.St} {H : Hp} (h : tS X.K [] (ex G (.setf i f a)) D σ H) : sFld X.K (tVar i) (tEv X.K (ev G a)) f D σ H := by
  obtain ⟨fm, F, ρ, fl, ρ', o, e, q⟩ := h
  unfold ex at e
  obtain ⟨⟨d, ρ1⟩, e1, e2⟩ := Out.bind_inv e
  split at e2
  · rename_i c ns xs hs
    split at e2
    · rename_i hc
      obtain ⟨c1, c2, c3⟩ := hc
      cases e2
      refine ⟨fm, F, ρ, d, ρ1, o, e1, fun v F1 H1 o1 x1 r1 => ?_⟩
      obtain ⟨v0, hv, p, u, rfl, b1, b2, b3, C, dx, vs, rfl, hcl, hl, ra⟩ := o1.slot i _ hs
      obtain ⟨C', g1, g2, g3⟩ := w.fld c f c1
      have hCC : C' = C := by
        have z := hcl.at_
        rw [g1] at z
        cases z; rfl
      subst hCC
      have hlv : ns.length = vs.length := by rw [ra.length]; exact hl
      refine ⟨_, hv, p, C', dx, _, rfl, b3, g2, g3, by rw [List.length_zip]; omega, ?_⟩
      rw [putF_new c2 hlv]
      refine q σ F1 _ (o1.chgO hs hv b1 b2 ?_ fun j zs hj e => by rw [← hv]; exact o1.inj j i zs _ hj e hs) x1 Keep.refl
      refine ⟨C', dx, vs ++ [v], rfl, ⟨g1, fun _ => g2, fun f' hf => ?_⟩, by simp [hl], ra.app (.one r1)⟩
      rcases List.mem_append.mp hf with z | z
      · exact hcl.no f' z
      · simp only [List.mem_cons, List.not_mem_nil, or_false] at z
        rw [z]; exact g3
    · cases e2
  · cases e2
theorem setIx_rd {i : Nat} {a : E} {d : D} {fm : Fm} {F : Hp} {ρ ρ2 : PEnv} {v : V} {σ : L2.St} {H : Hp} {Q : L2.St → Hp → Prop} (o : OK X.K fm F ρ σ H) (r : Rep X.K F v d) (e : setIx G i a d ρ = .ok ρ2) (q : ∀ F' H', OK X.K fm F' ρ2 σ H' → Ex F F' → Q σ H') : gSub (tVar i) (tEv X.K (ev G a)) rSetL v σ H Q := by
  unfold setIx at e
  split at e
  · rename_i ho
    obtain ⟨xs0, hx0⟩ := isOwn_some ho
    obtain ⟨⟨u, ρ2⟩, e3, e4⟩ := Out.bind_inv e
    split at e4
    · rename_i xs kk hs hu
      have hu' : u = .int kk := hu
      subst hu'
      obtain ⟨ys, e5, e6⟩ := Out.bind_inv e4
      cases e6
      have e5' := Out.of_ok e5
      unfold setAt at e5'
      simp only [Option.map_eq_some_iff] at e5'
      obtain ⟨j, hj, rfl⟩ := e5'
      obtain ⟨v', hv, _⟩ := o.slot i _ hx0
      refine ⟨v', hv, fm, F, ρ, _, ρ2, o, e3, fun w2 F2 H2 o2 x2 r2 => ?_⟩
      cases r2
      obtain ⟨p, vs, rfl, b1, b2, b3, b4, b5⟩ := mine_of o2 hs hv
      refine ⟨p, vs, kk, j, rfl, rfl, b3, by rw [b4.length]; exact hj, ?_⟩
      exact q F2 _ (o2.chgS hs hv b1 b2 (b4.set j (r.mono x2)) b5) x2
    · cases e4
  · cases e
theorem swp_rd {i j : Nat} {a b c : E} {D : Ends} {σ : L2.St} {H : Hp} (h : tS X.K [] (ex G (.swp i a j b c)) D σ H) : tAsg (tEv X.K (ev G c)) (gTup X.K 2 (gCons (gSub (tVar i) (tEv X.K (ev G a)) rSetL) (gCons (gSub (tVar j) (tEv X.K (ev G b)) rSetL) gNil))) D σ H := by
  obtain ⟨fm, F, ρ, fl, ρ', o, e, q⟩ := h
  unfold ex at e
  obtain ⟨⟨d, ρ1⟩, e1, e2⟩ := Out.bind_inv e
  split at e2
  · rename_i d1 d2 hd
    have hd' : d = .tup [d1, d2] := hd
    subst hd'
    obtain ⟨ρ2, e3, e4⟩ := Out.bind_inv e2
    obtain ⟨ρ3, e5, e6⟩ := Out.bind_inv e4
    cases e6
    refine ⟨fm, F, ρ, _, ρ1, o, e1, fun v F1 H1 o1 x1 r1 => ?_⟩
    cases r1 with
    | tup h1 h2 =>
      cases h2 with
      | cons r1 h2 =>
        cases h2 with
        | cons r2 h2 =>
          cases h2
          refine ⟨_, _, rfl, o1.exF.sqT h1.sqT, rfl, _, _, rfl, setIx_rd o1 r1 e3 fun F2 H2 o2 x2 => ⟨_, _, rfl, setIx_rd o2 (r2.mono x2) e5 fun F3 H3 o3 x3 => ⟨rfl, q σ F3 H3 o3 (x1.trans (x2.trans x3)) Keep.refl⟩⟩⟩
  · cases e2
/-! ### blocks, loops -/
theorem ext_rd {i : Nat} {a : E} {D : Ends} {σ : L2.St} {H : Hp} (h : tS X.K [] (ex G (.ext i a)) D σ H) : tDrop (tBM X.K "list" rExtend (tVar i) (tCons (tCallS X.K (evo G a)) tNil)) D σ H := by
  obtain ⟨fm, F, ρ, f, ρ', o, e, q⟩ := h
  unfold ex at e
  split at e
  · rename_i ho
    obtain ⟨xs0, hx0⟩ := isOwn_some ho
    obtain ⟨⟨t, ρ1⟩, e1, e2⟩ := Out.bind_inv e
    split at e2
    · rename_i ys xs ht hs
      have ht' : t = .own ys := ht
      subst ht'
      split at e2
      · rename_i hlen
        cases e2
        obtain ⟨v, hv, p, _, rfl, b1, b2, b3, vs, rfl, b4⟩ := o.slot i _ hx0
        refine ⟨_, hv, .inl ⟨rfl, vs, SqL.of b3⟩, fm, F, ρ, _, ρ1, o, e1, fun w F1 H1 o1 x1 r1 => ?_⟩
        obtain ⟨p', vs', hp', c1, c2, c3, c4, c5⟩ := mine_of o1 hs hv
        cases hp'
        obtain ⟨p2, _, rfl, d1, d2, d3, ⟨vs2, rfl, d4⟩, d5⟩ := r1
        refine ⟨p, p2, vs', vs2, rfl, rfl, c3, d3, by rw [c4.length, d4.length, ← lim_eq]; exact hlen, ?_⟩
        exact q σ F1 _ (o1.chgS hs hv c1 c2 (c4.app d4) c5) x1 Keep.refl
      · cases e2
    · cases e2
  · cases e
theorem OK.junk {K : PySem.W.Frag} {fm : Fm} {F H : Hp} {ρ : PEnv} {σ : L2.St} (o : OK K fm F ρ σ H) (i : Nat) (v : V) : OK K fm F (ρ.set i none) (σ.set i (some v)) H := by
  refine ⟨o.exB, o.exF, o.base, by simp [o.len], fun j s e => ?_, fun j k xs ys hjk e1 e2 => ?_⟩
  · obtain ⟨c, e⟩ := getS_set_none e
    rw [List.getElem?_set_ne (Ne.symm c)]; exact o.slot j s e
  · obtain ⟨c1, e1⟩ := getS_set_none e1
    obtain ⟨c2, e2⟩ := getS_set_none e2
    rw [List.getElem?_set_ne (Ne.symm c1), List.getElem?_set_ne (Ne.symm c2)]
    exact o.inj j k xs ys hjk e1 e2
theorem junk_rd {i : Nat} {a b : E} {D : Ends} {σ : L2.St} {H : Hp} (h : tS X.K [i] (ex G (.junk i a b)) D σ H) : tAsg (tDisp [(tEv X.K (ev G a), tEv X.K (ev G b))]) (gName i) D σ H := by
  obtain ⟨fm, F, ρ, f, ρ', o, e, q⟩ := h
  unfold ex at e
  obtain ⟨⟨d1, ρ1⟩, e1, e2⟩ := Out.bind_inv e
  obtain ⟨⟨d2, ρ2⟩, e3, e4⟩ := Out.bind_inv e2
  intro p hp
  have hB : fm.B p = none := o.exB.fresh hp
  have o2 := (o.newH (x := .dK []) hp).keep (q := p) (x := .dK []) (o.exF.fresh hp) upd_same fun j xs e z => by
    obtain ⟨v, h1, p', vs, rfl, b1, b2, b3, b4⟩ := o.slot j _ e
    rw [h1] at z; cases z
    rw [hp] at b3; cases b3
  refine ⟨fm.keep p (.dK []), F, ρ, d1, ρ1, o2, e1, fun v1 F1 H1 o3 x1 r1 => ⟨fm.keep p (.dK []), F1, ρ1, d2, ρ2, o3, e3, fun v2 F2 H2 o4 x2 r2 => ?_⟩⟩
  obtain ⟨o5, hF, hH, hs⟩ := OK.unkeep hB o4
  cases d1 with
  | int k =>
    cases e4
    cases r1
    exact ⟨hH, [(.inl k, v2)], rfl, by simp, q _ F2 _ ((o5.chg hB hF hs).junk i _) (x1.trans x2) (keep_set (by simp))⟩
  | _ => cases e4
theorem nil_rd {D : Ends} {σ : L2.St} {H : Hp} (h : tS X.K [] (exs G []) D σ H) : tNext D σ H := by
  obtain ⟨fm, F, ρ, f, ρ', o, e, q⟩ := h
  unfold exs at e
  cases e
  exact q σ F H o (Ex.refl F) Keep.refl
theorem cons_rd {s : S} {ss : List S} {D : Ends} {σ : L2.St} {H : Hp} (h : tS X.K (wrs (s :: ss)) (exs G (s :: ss)) D σ H) : tSeq (tS X.K (wr s) (ex G s)) (tS X.K (wrs ss) (exs G ss)) D σ H := by
  obtain ⟨fm, F, ρ, f, ρ', o, e, q⟩ := h
  unfold exs at e
  obtain ⟨⟨f1, ρ1⟩, e1, e2⟩ := Out.bind_inv e
  have m1 : ∀ i ∈ wr s, i ∈ wrs (s :: ss) := fun i hi => by unfold wrs; exact List.mem_append_left _ hi
  have m2 : ∀ i ∈ wrs ss, i ∈ wrs (s :: ss) := fun i hi => by unfold wrs; exact List.mem_append_right _ hi
  refine ⟨fm, F, ρ, f1, ρ1, o, e1, ?_⟩
  cases f1 with
  | nx => exact fun σ' F' H' o' x' k' => ⟨fm, F', ρ1, f, ρ', o', e2, q.from x' (k'.mono m1) m2⟩
  | brk => cases e2; exact q.from (Ex.refl F) Keep.refl m1
  | cnt => cases e2; exact q.from (Ex.refl F) Keep.refl m1
  | ret s => cases e2; exact q.from (Ex.refl F) Keep.refl m1
theorem ite_rd {c : T} {a b : List S} {D : Ends} {σ : L2.St} {H : Hp} (h : tS X.K (wr (.ite c a b)) (ex G (.ite c a b)) D σ H) : tIfS (tEvT X.K (evT G c)) (tS X.K (wrs a) (exs G a)) (tS X.K (wrs b) (exs G b)) D σ H := by
  obtain ⟨fm, F, ρ, f, ρ', o, e, q⟩ := h
  unfold ex at e
  obtain ⟨⟨t, ρ1⟩, e1, e2⟩ := Out.bind_inv e
  have m1 : ∀ i ∈ wrs a, i ∈ wr (.ite c a b) := fun i hi => by unfold wr; exact List.mem_append_left _ hi
  have m2 : ∀ i ∈ wrs b, i ∈ wr (.ite c a b) := fun i hi => by unfold wr; exact List.mem_append_right _ hi
  refine ⟨fm, F, ρ, t, ρ1, o, e1, fun F' H' o' x' => ?_⟩
  cases t with
  | true => rw [if_pos rfl]; exact ⟨fm, F', ρ1, f, ρ', o', e2, q.from x' Keep.refl m1⟩
  | false => rw [if_neg Bool.false_ne_true]; exact ⟨fm, F', ρ1, f, ρ', o', e2, q.from x' Keep.refl m2⟩
theorem whil_rd {c : T} {b : List S} {D : Ends} {σ : L2.St} {H : Hp} (h : tS X.K (wr (.whil c b)) (ex G (.whil c b)) D σ H) : tWhile (tEvT X.K (evT G c)) (tS X.K (wrs b) (exs G b)) D σ H := by
  obtain ⟨fm, F, ρ, f, ρ', o, e, q⟩ := h
  unfold ex at e
  have hw : wr (.whil c b) = wrs b := by unfold wr; rfl
  rw [hw] at q
  refine ⟨fun m σ' H' => ∃ F' ρi, OK X.K fm F' ρi σ' H' ∧ Ex F F' ∧ Keep (wrs b) σ σ' ∧ whileL (evT G c) (exs G b) m ρi = .ok (f, ρ'), ⟨wlim, F, ρ, o, Ex.refl F, Keep.refl, e⟩, ?_⟩
  rintro m σ1 H1 ⟨F1, ρi, o1, x1, k1, e1⟩
  cases m with
  | zero => unfold whileL at e1; cases e1
  | succ m =>
    unfold whileL at e1
    obtain ⟨⟨t, ρ1⟩, e2, e3⟩ := Out.bind_inv e1
    refine ⟨fm, F1, ρi, t, ρ1, o1, e2, fun F2 H2 o2 x2 => ?_⟩
    cases t with
    | false =>
      cases e3
      rw [if_neg Bool.false_ne_true]
      exact q σ1 F2 H2 o2 (x1.trans x2) k1
    | true =>
      obtain ⟨⟨fb, ρ2⟩, e4, e5⟩ := Out.bind_inv e3
      rw [if_pos rfl]
      refine ⟨fun σ' H' => ∃ F' ρi, OK X.K fm F' ρi σ' H' ∧ Ex F F' ∧ Keep (wrs b) σ σ' ∧ whileL (evT G c) (exs G b) m ρi = .ok (f, ρ'), fun σ' H' hN => ⟨m, by omega, hN⟩, fm, F2, ρ1, fb, ρ2, o2, e4, ?_⟩
      cases fb with
      | nx => exact fun σ' F' H' o' x' k' => ⟨F', ρ2, o', (x1.trans x2).trans x', k1.trans k', e5⟩
      | cnt => exact fun σ' F' H' o' x' k' => ⟨F', ρ2, o', (x1.trans x2).trans x', k1.trans k', e5⟩
      | brk => cases e5; exact fun σ' F' H' o' x' k' => q σ' F' H' o' ((x1.trans x2).trans x') (k1.trans k')
      | ret s => cases e5; exact fun v σ' F' H' o' x' k' r => q v σ' F' H' o' ((x1.trans x2).trans x') (k1.trans k') r
theorem loop_rd {tg : Bool × List Nat} {ik : IK} {ies : List E} {b : List S} {D : Ends} {σ : L2.St} {H : Hp} (h : tS X.K (wr (.loop tg ik ies b)) (ex G (.loop tg ik ies b)) D σ H) : tFor (tIt X.K ik (evs G ies)) (gT X.K tg) (tS X.K (wrs b) (exs G b)) D σ H := by
  obtain ⟨fm, F, ρ, f, ρ', o, e, q⟩ := h
  unfold ex at e
  obtain ⟨⟨ds, ρ1⟩, e1, e2⟩ := Out.bind_inv e
  obtain ⟨items, e3, e4⟩ := Out.bind_inv e2
  have hw : wr (.loop tg ik ies b) = tg.2 ++ wrs b := by unfold wr; rfl
  rw [hw] at q
  split at e4
  · rename_i hfree
    have hbr : ∀ i, ik = .brw i → i ∉ tg.2 ++ wrs b := fun i hi => by
      subst hi
      unfold freeB at hfree
      simpa using hfree
    refine ⟨fm, F, ρ, ds, ρ1, items, o, e1, Out.of_ok e3, fun J F1 H1 o1 x1 feed => ?_⟩
    refine ⟨fun i m σ' H' => ∃ F' ρi, m = items.length - i ∧ i ≤ items.length ∧ OK X.K fm F' ρi σ' H' ∧ Ex F1 F' ∧ Keep (tg.2 ++ wrs b) σ σ' ∧ (∀ j, ik = .brw j → getS ρi j = getS ρ1 j) ∧
      forL (fun x ρ1_1 => (Out.of (setT ρ1_1 tg x)).bind fun ρ2 => (exs G b ρ2).bind fun r => if sameB ik ρ1 r.2 = true then .ok r else .bad) (items.drop i) ρi = .ok (f, ρ'),
      ⟨items.length, F1, ρ1, by simp, Nat.zero_le _, o1, Ex.refl F1, Keep.refl, fun _ _ => rfl, by simpa using e4⟩, ?_⟩
    rintro i m σ2 H2 ⟨F2, ρi, rfl, hi, o2, x2, k2, b2, e5⟩
    have fd := feed fm F2 ρi σ2 H2 o2 x2 (fun j hj => ⟨b2 j hj, k2 j (hbr j hj)⟩)
    by_cases hlt : i < items.length
    · right
      obtain ⟨g1, g2⟩ := fd.1 i items[i] (List.getElem?_eq_getElem hlt)
      have hdrop : items.drop i = items[i] :: items.drop (i + 1) := List.drop_eq_getElem_cons hlt
      rw [hdrop] at e5
      unfold forL at e5
      obtain ⟨⟨fb, ρ3⟩, e6, e7⟩ := Out.bind_inv e5
      obtain ⟨ρ4, e8, e9⟩ := Out.bind_inv e6
      obtain ⟨⟨fb', ρ5⟩, e10, e11⟩ := Out.bind_inv e9
      split at e11
      · rename_i hsame
        cases e11
        refine ⟨g1, fun σ' H' => ∃ F' ρi, i + 1 ≤ items.length ∧ OK X.K fm F' ρi σ' H' ∧ Ex F1 F' ∧ Keep (tg.2 ++ wrs b) σ σ' ∧ (∀ j, ik = .brw j → getS ρi j = getS ρ1 j) ∧
          forL (fun x ρ1_1 => (Out.of (setT ρ1_1 tg x)).bind fun ρ2 => (exs G b ρ2).bind fun r => if sameB ik ρ1 r.2 = true then .ok r else .bad) (items.drop (i + 1)) ρi = .ok (f, ρ'),
          fun σ' H' ⟨F', ρi', n1, n2⟩ => ⟨items.length - (i + 1), by omega, F', ρi', rfl, n1, n2⟩, fun x H3 hy => ?_⟩
        obtain ⟨eH, rx⟩ := g2 x H3 hy
        subst eH
        refine setT_ok o2 rx (Out.of_ok e8) fun σ3 o3 _ k3 => ?_
        have k3' : Keep (tg.2 ++ wrs b) σ σ3 := k2.trans fun j hj => k3 j fun z => hj (List.mem_append_left _ z)
        have mb : ∀ j ∈ wrs b, j ∈ tg.2 ++ wrs b := fun j hj => List.mem_append_right _ hj
        refine ⟨fm, F2, ρ4, fb, ρ3, o3, e10, ?_⟩
        cases fb with
        | nx => exact fun σ' F' H' o' x' k' => ⟨F', ρ3, hlt, o', x2.trans x', k3'.trans (k'.mono mb), fun j hj => same_ok hsame j hj, e7⟩
        | cnt => exact fun σ' F' H' o' x' k' => ⟨F', ρ3, hlt, o', x2.trans x', k3'.trans (k'.mono mb), fun j hj => same_ok hsame j hj, e7⟩
        | brk => cases e7; exact fun σ' F' H' o' x' k' => q σ' F' H' o' ((x1.trans x2).trans x') (k3'.trans (k'.mono mb))
        | ret s => cases e7; exact fun v σ' F' H' o' x' k' r => q v σ' F' H' o' ((x1.trans x2).trans x') (k3'.trans (k'.mono mb)) r
      · cases e11
    · left
      have hie : i = items.length := by omega
      subst hie
      rw [List.drop_length] at e5
      unfold forL at e5
      cases e5
      exact ⟨fd.2 _ (Nat.le_refl _), q σ2 F2 H2 o2 (x1.trans x2) k2⟩
  · cases e4
end
end Px
set_option Elab.async false
set_option linter.all false
set_option maxRecDepth 100000
set_option maxHeartbeats 2000000
namespace Px
open PySem PySem.Spec PyProof.Rows L2
section
variable {X : Cx} {G : Sig} {k : Nat} {x y z e : Expr} {as : List Ar} {pos : Pos}
theorem notSlice_asg {i : Expr} (h : notSlice i = true) : ∀ v, assign (.Subscript x i pos) X.env v = (do
      let ov ← holding [v] (eval x X.env)
      let iv ← holding [v, ov] (eval i X.env)
      standAt pos
      holding [v, ov, iv] (setItem ov iv v)
      release [v, ov, iv] []) := by
  intro v
  cases i <;> first | rfl | (simp [notSlice] at h; done)
theorem notComp_sws {t : Expr} {l : Nat} {env : Env} (h : notComp x = true) : swapsWithSole [t] x l env = pure false := notComp_sw h
theorem ckT1_inv {N : List Str} {sc : Scope} {i : Nat} {n : Str} {p : Pos} (h : ckT1 N sc i (.Name n p) = true) : N[i]? = some n ∧ locB sc n = true := by
  unfold ckT1 at h
  rw [Bool.and_eq_true, decide_eq_true_eq] at h
  exact h
theorem swap_two {n m : Str} {px py pt p2 : Pos} {kt k2 : Nat} {ax bx : Expr} (hb : X.env.scope.kind = .function) (hx : X.env.scope.names.lookup n = some .local) (hy : X.env.scope.names.lookup m = some .local) (hl : px.line = py.line) (hne : n ≠ m)
    (h1 : ([ax, bx].all (foldedForSure 8)) = false) (h2 : ([ax, bx].all (constantsAlone 8)) = false) (s1 : notStar ax = true) (s2 : notStar bx = true) :
    swappedStores [.Tuple [.Name n px, .Name m py] kt pt] (.Tuple [ax, bx] k2 p2) X.env = pure (some [n, m]) := by
  have kb : X.env.blockKind = .function := by unfold Env.blockKind; rw [hb]; rfl
  have kx : X.env.kindOf n = some .local := hx
  have ky : X.env.kindOf m = some .local := hy
  have er : ([n, m] : List Str).eraseDups.length = 2 := by
    simp [List.eraseDups_cons, hne, Ne.symm hne]
  unfold swappedStores
  simp only [kb, h1, h2]
  simp [Expr.pos, hl, List.filterMap_cons, kx, ky, er]
  intro hh
  exfalso
  rcases hh with hh | hh
  · cases ax <;> first | (cases hh; done) | (simp [notStar] at s1; done)
  · cases bx <;> first | (cases hh; done) | (simp [notStar] at s2; done)
theorem ckP_comp {n : Nat} {N : List Str} {sc scope : Scope} {p : P} {as : List Ar} {eltx : Expr} {gs : List Comprehension} : ckP n N sc p as (.ListComp eltx gs scope pos) = false := by
  cases n with
  | zero => rfl
  | succ n =>
    unfold ckP
    split <;> first | rfl | (simp_all; done)
theorem ckE_comp {n : Nat} {N : List Str} {sc scope : Scope} {i : E} {eltx tgx iterx : Expr} {ifsx : List Expr} (h : ckE (n + 1) N sc i (.ListComp eltx [⟨tgx, iterx, ifsx, 0⟩] scope pos) = true) :
    ∃ vs tg ik ies conds elt, i = .comp vs tg ik ies conds elt ∧ blkC N sc scope (ownOf N vs) = true ∧ ckTg N scope tg tgx = true ∧ (tg.2.all fun i => vs.contains i) = true ∧ ckI n N sc ik ies iterx = true ∧ conds.length ≤ 1 ∧ ckC n N (relS scope sc) conds ifsx = true ∧ ckE n N (relS scope sc) elt eltx = true := by
  unfold ckE at h
  split at h
  case h_12 =>
    rename_i vs tg ik ies conds elt e2 t2 i2 f2 sc2 p2 hn h2
    cases h2
    cases hn
    simp only [Bool.and_eq_true, decide_eq_true_eq] at h
    obtain ⟨⟨⟨⟨⟨⟨h1, h2⟩, h3⟩, h4⟩, h5⟩, h6⟩, h7⟩ := h
    exact ⟨_, _, _, _, _, _, rfl, h1, h2, h3, h4, h5, h6, h7⟩
  case h_4 =>
    rw [ckP_comp] at h
    cases h
  all_goals (first | (rename_i h1 h2; cases h2; done) | (rename_i h2; cases h2; done) | (cases h; done))
theorem ckE_comp2 {n : Nat} {N : List Str} {sc scope : Scope} {i : E} {eltx tgx iterx tgx1 iterx1 : Expr} {ifsx ifsx1 : List Expr} (h : ckE (n + 1) N sc i (.ListComp eltx [⟨tgx, iterx, ifsx, 0⟩, ⟨tgx1, iterx1, ifsx1, 0⟩] scope pos) = true) :
    ∃ vs tg ik ies conds vs1 tg1 ik1 ies1 conds1 elt, i = .comp2 vs tg ik ies conds vs1 tg1 ik1 ies1 conds1 elt ∧ blkC N sc scope (ownOf N vs) = true ∧ ckTg N scope tg tgx = true ∧ (tg.2.all fun i => vs.contains i) = true ∧ ckI n N sc ik ies iterx = true ∧ conds.length ≤ 1 ∧ ckC n N (relS scope sc) conds ifsx = true ∧
      ckTg N scope tg1 tgx1 = true ∧ (tg1.2.all fun i => vs1.contains i) = true ∧ (vs1.all fun i => vs.contains i) = true ∧ ckI n N (relS scope sc) ik1 ies1 iterx1 = true ∧ conds1.length ≤ 1 ∧ ckC n N (relS scope sc) conds1 ifsx1 = true ∧ ckE n N (relS scope sc) elt eltx = true := by
  unfold ckE at h
  split at h
  case h_13 =>
    rename_i hn h2
    cases h2
    cases hn
    simp only [Bool.and_eq_true, decide_eq_true_eq] at h
    obtain ⟨⟨⟨⟨⟨⟨⟨⟨⟨⟨⟨⟨h1, h2⟩, h3⟩, h4⟩, h5⟩, h6⟩, h7⟩, h8⟩, h9⟩, h10⟩, h11⟩, h12⟩, h13⟩ := h
    exact ⟨_, _, _, _, _, _, _, _, _, _, _, rfl, h1, h2, h3, h4, h5, h6, h7, h8, h9, h10, h11, h12, h13⟩
  case h_4 =>
    rw [ckP_comp] at h
    cases h
  all_goals (first | (rename_i h1 h2; cases h2; done) | (rename_i h2; cases h2; done) | (cases h; done))
theorem WS.own (w : WS X G k) : PassesOwn (model X.prog X.w) X.A X.env X.xe := by rw [w.xe]; exact PassesOwn.never
theorem snd_stmt (G : Sig) (k : Nat) : ∀ n, (∀ (X : Cx) (s : S) (st : Stmt), WS X G k → ckS n X.N X.env.scope s st = true → PS X st (tS X.K (wr s) (ex G s))) ∧
    (∀ (X : Cx) (ss : List S) (sts : List Stmt), WS X G k → ckSs n X.N X.env.scope ss sts = true → PSs X sts (tS X.K (wrs ss) (exs G ss)))
  | 0 => by
    constructor
    · intro X s st w h; unfold ckS at h; cases h
    · intro X s st w h; unfold ckSs at h; cases h
  | n + 1 => by
    obtain ⟨S1, S2⟩ := snd_stmt G k n
    have E := snd_all G k n
    constructor
    · intro X s st w h
      unfold ckS at h
      split at h
      · rename_i hn; cases hn
      · rename_i own i e nm p ex pos hn; cases hn
        simp only [Bool.and_eq_true, Bool.or_eq_true] at h
        obtain ⟨⟨h1, h2⟩, h3⟩ := h
        obtain ⟨t1, t2⟩ := ckT1_inv h1
        obtain ⟨l1, l2⟩ := w.fn nm t2
        have hw : wr (.set own i e) = [i] := by unfold wr; rfl
        rw [hw]
        by_cases hc : notComp ex = true
        · cases own with
          | true => exact (ps_set w.w.nd t1 l1 (evo_ok w.w h2) (notComp_sw hc) l2).imp fun D σ H h => set_rd (fun h => h) h
          | false => exact (ps_set w.w.nd t1 l1 (E.E X _ _ w.w h2) (notComp_sw hc) l2).imp fun D σ H h => setD_rd (fun h => h) h
        · have h3' : isC1 ex = true := by
            rcases h3 with h3 | h3
            · exact absurd h3 hc
            · exact h3
          unfold isC1 at h3'
          split at h3'
          · cases n with
            | zero => unfold ckE at h2; cases h2
            | succ n =>
              have E' := snd_all G k n
              obtain ⟨vs, tg, ik, ies, conds, elt, rfl, c1, c2, c3, c4, c5, c6, c7⟩ := ckE_comp h2
              obtain ⟨i1, i2⟩ := E'.I X _ _ _ _ w.w c4
              have key := fun cp sp => compS_ok (i := i) (n := nm) (pn := p) (pos := cp) (spos := sp) w.w w.fn c1 c2 c3 i2 i1 (fun s H C cl fp => (E'.C (X.blk s H _ (compEnvC _ cl C X.env) fp) _ _ (w.w.blk s H _ C cl fp) c6).2 c5) (fun s H C cl fp => E'.E (X.blk s H _ (compEnvC _ cl C X.env) fp) _ _ (w.w.blk s H _ C cl fp) c7) h1
              cases own with
              | true => exact (key _ _).imp fun D σ H h => set_rd own_call_rd h
              | false => exact (key _ _).imp fun D σ H h => setD_rd (own_ev_rd comp_lst) h
          · cases n with
            | zero => unfold ckE at h2; cases h2
            | succ n =>
              have E' := snd_all G k n
              obtain ⟨vs, tg, ik, ies, conds, vs1, tg1, ik1, ies1, conds1, elt, rfl, c1, c2, c3, c4, c5, c6, c7, c8, c9, c10, c11, c12, c13⟩ := ckE_comp2 h2
              obtain ⟨i1, i2⟩ := E'.I X _ _ _ _ w.w c4
              have j2 := (E'.I _ (.Tuple [] 0 ⟨0, 0, 0, 0⟩) _ _ _ (w.w.blk X.s_0 X.H_0 _ 0 [] []) c10).2
              have key := fun cp sp => compS2_ok (i := i) (n := nm) (pn := p) (pos := cp) (spos := sp) w.w w.fn c1 c2 c3 i2 i1 (fun s H C cl fp => (E'.C (X.blk s H _ (compEnvC _ cl C X.env) fp) _ _ (w.w.blk s H _ C cl fp) c6).2 c5) c7 c8 c9 j2 (fun s H C cl fp => (E'.I (X.blk s H _ (compEnvC _ cl C X.env) fp) _ _ _ _ (w.w.blk s H _ C cl fp) c10).1) (fun s H C cl fp => (E'.C (X.blk s H _ (compEnvC _ cl C X.env) fp) _ _ (w.w.blk s H _ C cl fp) c12).2 c11) (fun s H C cl fp => E'.E (X.blk s H _ (compEnvC _ cl C X.env) fp) _ _ (w.w.blk s H _ C cl fp) c13) h1
              cases own with
              | true => exact (key _ _).imp fun D σ H h => set_rd own_call_rd h
              | false => exact (key _ _).imp fun D σ H h => setD_rd (own_ev_rd comp2_lst) h
          · cases h3'
      · rename_i is e es kt pt ex pos hn; cases hn
        simp only [Bool.and_eq_true] at h
        obtain ⟨⟨⟨h1, h2⟩, h3⟩, h4⟩ := h
        obtain ⟨g1, g2, g3⟩ := ts_ok w.fn w.w.nd h1
        have hw : wr (.upk is e) = is := by unfold wr; rfl
        rw [hw]
        exact (ps_asg (E.E X _ _ w.w h2) (pg_tup w.w.calm g1 g2 g3) (notComp_sws h3) (noSwap_ok h4) rfl).imp fun D σ H h => upk_rd h
      · rename_i oi i oj j a b n1 px n2 py kt pt ax bx k2 pt2 pos hn; cases hn
        simp only [Bool.and_eq_true, decide_eq_true_eq, Bool.not_eq_true'] at h
        obtain ⟨⟨⟨⟨⟨⟨⟨⟨⟨⟨⟨⟨h1, h2⟩, h3⟩, h4⟩, h5⟩, h6⟩, h7⟩, h8⟩, h9⟩, h10⟩, h11⟩, h12⟩, h13⟩ := h
        have hw : wr (.par oi i oj j a b) = [i, j] := by unfold wr; rfl
        rw [hw]
        exact (ps_par w.w.calm w.w.nd h1 h2 h3 h4 h5 (pa_cons (evc_ok w.w h12) (pa_cons (evc_ok w.w h13) pa_nil (star_cons h11)) (star_cons h10)) (swap_two w.kd h4 h5 h6 h7 h8 h9 h10 h11) rfl).imp fun D σ H h => par_rd h3 h
      · rename_i i op e nm p op' ex pos hn; cases hn
        simp only [Bool.and_eq_true, decide_eq_true_eq] at h
        obtain ⟨⟨h1, h2⟩, h3⟩ := h
        subst h1
        obtain ⟨t1, t2⟩ := ckT1_inv h2
        obtain ⟨l1, l2⟩ := w.fn nm t2
        have hw : wr (.aug i op e) = [i] := by unfold wr; rfl
        rw [hw]
        exact (ps_aug w.w.nd t1 l1 (E.E X _ _ w.w h3) (ip_aug op) l2).imp fun D σ H h => aug_rd h
      · rename_i i ix e nm p ixx ps ex pos hn; cases hn
        simp only [Bool.and_eq_true] at h
        obtain ⟨⟨⟨⟨h1, h2⟩, h3⟩, h4⟩, h5⟩ := h
        have hw : wr (.seti i ix e) = [] := by unfold wr; rfl
        rw [hw]
        exact (ps_asg (E.E X _ _ w.w h4) (pg_sub (varB_ok h1) (E.E X _ _ w.w h2) set_list (notSlice_asg h3)) (notComp_sws h5) rfl rfl).imp fun D σ H h => seti_rd h
      · rename_i i e nm p at' apos ex cpos pos hn; cases hn
        simp only [Bool.and_eq_true, decide_eq_true_eq] at h
        obtain ⟨⟨⟨⟨h1, h2⟩, h3⟩, h4⟩, h5⟩ := h
        subst h1
        have hw : wr (.app i e) = [] := by unfold wr; rfl
        rw [hw]
        exact (ps_expr (pe_bm PySem.F.plainAttrs_list PySem.F.slot_list_append PySem.F.type_list_append mt_append (varB_ok h2) (pa_cons (E.E X _ _ w.w h3) pa_nil (star_cons h4)) rfl (by rw [star_cons h4]; rfl) h5 (star_cons h4)) rfl).imp fun D σ H h => app_rd h
      · rename_i i e nm p at' apos ex cpos pos hn; cases hn
        simp only [Bool.and_eq_true, decide_eq_true_eq] at h
        obtain ⟨⟨⟨⟨h1, h2⟩, h3⟩, h4⟩, h5⟩ := h
        subst h1
        have hw : wr (.ext i e) = [] := by unfold wr; rfl
        rw [hw]
        exact (ps_expr (pe_bm PySem.F.plainAttrs_list PySem.F.slot_list_extend PySem.F.type_list_extend mt_extend (varB_ok h2) (pa_cons (evo_ok w.w h3) pa_nil (star_cons h4)) rfl (by rw [star_cons h4]; rfl) h5 (star_cons h4)) rfl).imp fun D σ H h => ext_rd h
      · rename_i hn; cases hn
        simp only [Bool.and_eq_true] at h
        have hw : ∀ e, wr (.drop e) = [] := fun e => by unfold wr; rfl
        rw [hw]
        exact (ps_expr (E.E X _ _ w.w h.1) (notComp_sw h.2)).imp fun D σ H h => drop_rd h
      · rename_i hn; cases hn
        have hw : ∀ e, wr (.ret e) = [] := fun e => by unfold wr; rfl
        rw [hw]
        exact (ps_ret (evo_ok w.w h)).imp fun D σ H h => ret_rd h
      · refine ps_retN.imp fun D σ H h => ?_
        obtain ⟨fm, F, ρ, f, ρ', o, e, q⟩ := h
        unfold ex at e
        cases e
        exact q .non σ F H o (Ex.refl F) Keep.refl .non
      · rename_i hn; cases hn
        simp only [Bool.and_eq_true] at h
        exact (ps_if (E.T X _ _ w.w h.1.1) (S2 X _ _ w h.1.2) (S2 X _ _ w h.2)).imp fun D σ H h => ite_rd h
      · rename_i hn; cases hn
        simp only [Bool.and_eq_true] at h
        exact (ps_for w.own w.w.calm (E.I X _ _ _ _ w.w h.1.2).1 (tg_ok w.w.calm w.fn w.w.nd h.1.1) (S2 X _ _ w h.2) (notSet_fold (E.I X (.Name "" ⟨0, 0, 0, 0⟩) _ _ _ w.w h.1.2).2)).imp fun D σ H h => loop_rd h
      · rename_i hn; cases hn
        simp only [Bool.and_eq_true] at h
        exact (ps_while w.own (E.T X _ _ w.w h.1) (S2 X _ _ w h.2)).imp fun D σ H h => whil_rd h
      · refine ps_break.imp fun D σ H h => ?_
        obtain ⟨fm, F, ρ, f, ρ', o, e, q⟩ := h
        unfold ex at e
        cases e
        exact q σ F H o (Ex.refl F) Keep.refl
      · refine ps_continue.imp fun D σ H h => ?_
        obtain ⟨fm, F, ρ, f, ρ', o, e, q⟩ := h
        unfold ex at e
        cases e
        exact q σ F H o (Ex.refl F) Keep.refl
      · refine ps_pass.imp fun D σ H h => ?_
        obtain ⟨fm, F, ρ, f, ρ', o, e, q⟩ := h
        unfold ex at e
        cases e
        exact q σ F H o (Ex.refl F) Keep.refl
      · refine ps_never.imp fun D σ H h => ?_
        obtain ⟨fm, F, ρ, f, ρ', o, e, q⟩ := h
        unfold ex at e
        cases e
      · rename_i i a b nm p ax bx pd pos hn; cases hn
        simp only [Bool.and_eq_true] at h
        obtain ⟨⟨h1, h2⟩, h3⟩ := h
        obtain ⟨t1, t2⟩ := ckT1_inv h1
        obtain ⟨l1, l2⟩ := w.fn nm t2
        have hw : wr (.junk i a b) = [i] := by unfold wr; rfl
        rw [hw]
        exact (ps_set w.w.nd t1 l1 (pe_disp (pps_cons (E.E X _ _ w.w h2) (E.E X _ _ w.w h3) pps_nil) rfl rfl (by simp) (by simp)) (notComp_sw rfl) l2).imp fun D σ H h => junk_rd h
      · rename_i i f e nm p f' pa ex pos hn; cases hn
        simp only [Bool.and_eq_true, decide_eq_true_eq] at h
        obtain ⟨⟨⟨h1, h2⟩, h3⟩, h4⟩ := h
        subst h1
        have hw : wr (.setf i f' e) = [] := by unfold wr; rfl
        rw [hw]
        exact (ps_fld (varB_ok h2) (E.E X _ _ w.w h3) (notComp_sw h4)).imp fun D σ H h => setf_rd w.w h
      · rename_i i i1 j i2 e nm px ix qx nm2 py iy qy kt pt ex pos hn; cases hn
        simp only [Bool.and_eq_true] at h
        obtain ⟨⟨⟨⟨⟨⟨⟨⟨h1, h2⟩, h3⟩, h4⟩, h5⟩, h6⟩, h7⟩, h8⟩, h9⟩ := h
        have hw : wr (.swp i i1 j i2 e) = [] := by unfold wr; rfl
        rw [hw]
        exact (ps_asg (E.E X _ _ w.w h7) (pg_tup w.w.calm (pgs_cons (pg_sub (varB_ok h1) (E.E X _ _ w.w h3) set_list (notSlice_asg h5)) (pgs_cons (pg_sub (varB_ok h2) (E.E X _ _ w.w h4) set_list (notSlice_asg h6)) pgs_nil rfl) rfl) rfl rfl) (notComp_sws h8) (noSwap_ok h9) rfl).imp fun D σ H h => swp_rd h
      · cases h
    · intro X ss sts w h
      unfold ckSs at h
      split at h
      · rename_i hn; cases hn
      · exact pss_nil.imp fun D σ H h => nil_rd h
      · rename_i hn; cases hn
        rw [Bool.and_eq_true] at h
        exact (pss_cons (S1 X _ _ w h.1) (S2 X _ _ w h.2)).imp fun D σ H h => cons_rd h
      · cases h
end
end Px
set_option Elab.async false
set_option linter.all false
set_option maxRecDepth 100000
set_option maxHeartbeats 2000000
namespace Px
open PySem PySem.Spec PyProof.Rows L2
section
variable {P : Program} {w : World} {K : PySem.W.Frag} {mg : Str → Option Value} {base : Heap}
def OneSig (P : Program) (w : World) (K : PySem.W.Frag) (mg : Str → Option Value) (base : Heap) (k : Nat) (f : Str) (g : Gfun) : Prop :=
  ∃ a fd ps, mg f = some (.ref a) ∧ PySem.W.keepIn K (.ref a) = true ∧ Binds K fd ps [] ∧ FnOk P w K mg base CX0 k a fd ps (spOf K g)
/-- what a signature promises -/
structure SigOk (P : Program) (w : World) (K : PySem.W.Frag) (mg : Str → Option Value) (base : Heap) (k : Nat) (G : Sig) : Prop where
  fn : ∀ f g, G f = some g → OneSig P w K mg base k f g
  mth : ∀ c m g, G.mth c m = some g → ∃ C a fd ps, PySem.W.nsIn K mainGlobals c = some (some (.ref C)) ∧ Cls K C ∧ Meth K C m a ∧ Binds K fd ps [] ∧ FnOk P w K mg base CX0 k a fd ps (spOf K g)
  ini : ∀ c g, G.ini c = some g → ∃ C a fd ps j, k = j + 1 ∧ mg c = some (.ref C) ∧ PySem.W.nsIn K mainGlobals c = some (some (.ref C)) ∧ Mk K C a ∧ Binds K fd ps [] ∧ FnOk P w K mg base CX0 j a fd ps (spOf K g) ∧ IsiC K C
  fld : ∀ c f, G.fld c f = true → ∃ C, PySem.W.nsIn K mainGlobals c = some (some (.ref C)) ∧ Cls K C ∧ NoAttr K C f
theorem getS_start {as : List Slot} {n i : Nat} {s : Slot} (h : getS (as.map some ++ List.replicate n none) i = some s) : as[i]? = some s := by
  obtain ⟨h1, h2⟩ := getS_some h
  by_cases c : i < as.length
  · rw [List.getElem?_append_left (by simpa using c), List.getElem?_map] at h2
    cases e : as[i]? with
    | none => rw [e] at h2; cases h2
    | some t => rw [e] at h2; cases h2; rfl
  · rw [List.getElem?_append_right (by simpa using c)] at h2
    have hm := List.mem_of_getElem? h2
    have := List.eq_of_mem_replicate hm
    cases this
theorem getS_start' {as : List Slot} {n i : Nat} {s : Slot} (h : as[i]? = some s) : getS (as.map some ++ List.replicate n none) i = some s := by
  have hl := (List.getElem?_eq_some_iff.mp h).1
  unfold getS
  rw [List.getD_eq_getElem?_getD, List.getElem?_append_left (by simpa using hl), List.getElem?_map, h]
  rfl
theorem start_get {N : List Str} {vs : List V} {i : Nat} {v : V} (h : vs[i]? = some v) : (L2.start N vs)[i]? = some (some v) := by
  have hl := (List.getElem?_eq_some_iff.mp h).1
  unfold L2.start
  rw [List.getElem?_append_left (by simpa using hl), List.getElem?_map, h]
  rfl
theorem ArgsOk.get {F H : Hp} : ∀ {vs : List V} {as : List Slot} {i : Nat} {s : Slot}, ArgsOk K F H vs as → as[i]? = some s → ∃ v, vs[i]? = some v ∧ ArgOk K F H v s
  | _, _, i, s, .nil, h => by simp at h
  | _, _, 0, s, .cons h r, e => by simp at e; subst e; exact ⟨_, rfl, h⟩
  | _, _, i + 1, s, .cons h r, e => by obtain ⟨v, h1, h2⟩ := r.get (i := i) (by simpa using e); exact ⟨v, by simpa using h1, h2⟩
theorem ownArgs_ok {as : List Slot} {ws : List Nat} {ρ : PEnv} (h : ownArgs as ws ρ = true) {j : Nat} {xs : Own} (hj : as[j]? = some (Slot.mo xs)) : j ∉ ws ∧ ∃ ys, getS ρ j = some (.mo ys) := by
  unfold ownArgs at h
  have hl := (List.getElem?_eq_some_iff.mp hj).1
  have := List.all_eq_true.mp h j (List.mem_range.mpr hl)
  rw [hj] at this
  simp only [isOwn, Bool.not_true, Bool.false_or, Bool.and_eq_true, Bool.not_eq_true'] at this
  refine ⟨by simpa using this.1, ?_⟩
  have h2 := this.2
  split at h2
  · rename_i ys hs; exact ⟨ys, hs⟩
  · cases h2
/-- a def of the text does what its IR does -/
theorem def_ok {G : Sig} {k : Nat} {d : Def} {f f2 : Str} {st : Stmt} {a : Addr} {fd : FuncData} {n : Nat} (F : Fun K f f2 st a fd) (S : FnScope d.N (d.N.take d.np) (defScope st)) (hnp : d.np ≤ d.N.length)
    (hc : ckSs n d.N (defScope st) d.body (defBody st) = true) (sig : SigOk P w K mg base k G) (blt : ∀ x ∈ bnames, mg x = none) :
    FnOk P w K mg base CX0 (k + 1) a fd (d.N.take d.np) (spOf K (runDef G d)) := by
  refine F.ok S (fun vs H Q E h => ?_) (fun cdv A outer s H vs Q E hr h => ⟨_, (snd_stmt G k n).2 _ _ _ ⟨⟨rfl, S.nd, hr, sig.fn, blt, sig.mth, sig.ini, sig.fld⟩, fun x hx => ⟨?_, .inl rfl⟩, rfl, S.kind⟩ hc, ?_⟩)
  · obtain ⟨F0, as, r, outs, ex0, ha, hd, hg, q⟩ := h
    unfold runDef at hg
    split at hg
    · rename_i hl
      rw [ha.length, hl.1, List.length_take]
      omega
    · cases hg
  · unfold locB at hx
    split at hx
    · exact .inl (by assumption)
    · exact .inr (by assumption)
    · cases hx
  · obtain ⟨F0, as, r, outs, ex0, ha, hd, hg, q⟩ := h
    unfold runDef at hg
    split at hg
    · rename_i hl
      obtain ⟨⟨fl, ρ'⟩, e1, e2⟩ := Out.bind_inv hg
      split at e2
      · rename_i how
        have hlen := ha.length
        -- what must not change: all but the lists that came as arguments
        let B : Hp := fun b => @ite _ (ownAt as vs b) (Classical.propDecidable _) none (H b)
        have hB1 : ∀ b, ownAt as vs b → B b = none := fun b h => if_pos h
        have hB2 : ∀ b, ¬ ownAt as vs b → B b = H b := fun b hn => if_neg hn
        have ownF : ∀ b, ownAt as vs b → F0 b = none ∧ H b ≠ none := fun b ⟨j, xs, h1, h2⟩ => by
          obtain ⟨v, h3, p, ws, rfl, b1, b2, b3⟩ := ha.get h1
          rw [h2] at h3; cases h3
          exact ⟨b1, by rw [b2]; simp⟩
        have o : OK K ⟨B, F0⟩ F0 (as.map some ++ List.replicate (d.N.length - as.length) none) (L2.start d.N vs) H := by
          refine ⟨fun b u e => ?_, ex0, fun b _ => rfl, ?_, fun i s e => ?_, fun i j xs ys hij e1 e2 => ?_⟩
          · by_cases c : ownAt as vs b
            · have e' : B b = some u := e
              rw [hB1 b c] at e'; cases e'
            · have e' : B b = some u := e
              rw [hB2 b c] at e'; exact e'
          · unfold L2.start; simp [hlen]
          · have e' := getS_start e
            obtain ⟨v, h1, h2⟩ := ha.get e'
            refine ⟨v, start_get h1, ?_⟩
            cases s with
            | dat d => exact h2
            | mo xs =>
              obtain ⟨p, ws, rfl, b1, b2, b3⟩ := h2
              exact ⟨p, ws, rfl, hB1 p ⟨i, xs, e', h1⟩, b1, b2, b3⟩
          · have e1' := getS_start e1
            have e2' := getS_start e2
            obtain ⟨v, h1, _⟩ := ha.get e1'
            obtain ⟨u, h2, _⟩ := ha.get e2'
            rw [start_get h1, start_get h2]
            intro z
            have := hd i j xs ys hij e1' e2'
            rw [h1, h2] at this
            exact this (by cases z; rfl)
        -- what is left behind the body
        have post : ∀ (v : V) (σ' : L2.St) (F' H' : Hp) (r : Slot), OK K ⟨B, F0⟩ F' ρ' σ' H' → Ex F0 F' → Keep (wrs d.body) (L2.start d.N vs) σ' → SlotRes K ⟨B, F0⟩ F' ρ' σ' H' v r → CallPost K F0 H vs as r ρ' v F' H' := fun v σ' F' H' r o' x' kp rr => by
          refine ⟨x', o'.exF, fun b u e hn => ?_, fun j xs ys h1 h2 => ?_, ?_⟩
          · have hb : B b = some u := by rw [hB2 b hn]; exact e
            exact ⟨o'.exB b u hb, o'.base b (by show B b ≠ none; rw [hb]; simp)⟩
          · obtain ⟨hj, _⟩ := ownArgs_ok how h1
            obtain ⟨w', h3, p, ws, rfl, b1, b2, b3, b4⟩ := o'.slot j _ h2
            obtain ⟨v0, h4, _⟩ := ha.get h1
            rw [kp j hj, start_get h4] at h3
            cases h3
            exact ⟨p, ws, h4, b2, b3, b4⟩
          · cases r with
            | dat d => exact rr
            | mo ys =>
              obtain ⟨p, ws, rfl, b1, b2, b3, b4, b5⟩ := rr
              refine ⟨p, ws, rfl, ?_, b2, b3, b4⟩
              by_cases c : ownAt as vs p
              · obtain ⟨j, xs, h1, h2⟩ := c
                obtain ⟨hj, zs, hz⟩ := ownArgs_ok how h1
                exact absurd (by rw [kp j hj]; exact start_get h2) (b5 j zs hz)
              · have b1' : B p = none := b1
                rwa [hB2 p c] at b1'
        refine ⟨⟨B, F0⟩, F0, _, fl, ρ', o, e1, ?_⟩
        cases fl with
        | nx => cases e2; exact fun σ' F' H' o' x' k' => q .non F' H' (post .non σ' F' H' _ o' x' k' .non)
        | ret s => cases e2; exact fun v σ' F' H' o' x' k' rr => q v F' H' (post v σ' F' H' _ o' x' k' rr)
        | brk => cases e2
        | cnt => cases e2
      · cases e2
    · cases hg
/-! ### the program: its defs, in the text -/
structure DefIn (K : PySem.W.Frag) (mg : Str → Option Value) (d : Def) : Prop where
  cl : d.cl = ""
  ex : ∃ (st : Stmt) (a : Addr) (fd : FuncData) (n : Nat), Fun K d.nm d.nm st a fd ∧ mg d.nm = some (.ref a) ∧ Binds K fd (d.N.take d.np) [] ∧ FnScope d.N (d.N.take d.np) (defScope st) ∧ d.np ≤ d.N.length ∧ ckSs n d.N (defScope st) d.body (defBody st) = true
/-- a method of the class d.cl -/
structure MthIn (K : PySem.W.Frag) (mg : Str → Option Value) (d : Def) : Prop where
  ex : ∃ (C : Addr) (st : Stmt) (a : Addr) (fd : FuncData) (n : Nat) (q : Str), PySem.W.nsIn K mainGlobals d.cl = some (some (.ref C)) ∧ mg d.cl = some (.ref C) ∧ Cls K C ∧ Meth K C d.nm a ∧ Fun K d.nm q st a fd ∧ Binds K fd (d.N.take d.np) [] ∧ FnScope d.N (d.N.take d.np) (defScope st) ∧ d.np ≤ d.N.length ∧ ckSs n d.N (defScope st) d.body (defBody st) = true ∧
    (d.nm = "__init__" → Mk K C a ∧ IsiC K C ∧ ∀ f ∈ d.fs, NoAttr K C f)
theorem find_mem {ds : List Def} {c f : Str} {d : Def} (h : fndD ds c f = some d) : d ∈ ds ∧ d.nm = f ∧ d.cl = c :=
  ⟨List.mem_of_find?_eq_some h, by have := List.find?_some h; simpa using this⟩
theorem sig_ok {ds : List Def} (hds : ∀ d ∈ ds, DefIn K mg d ∨ (d.cl ≠ "" ∧ MthIn K mg d)) (blt : ∀ x ∈ bnames, mg x = none) : ∀ (k : Nat), SigOk P w K mg base k (sigOf ds k) := by
  have isM : ∀ {c f : Str} {d : Def}, c ≠ "" → fndD ds c f = some d → MthIn K mg d ∧ d.nm = f ∧ d.cl = c := fun {c f d} hc h => by
    obtain ⟨h1, h2, h3⟩ := find_mem h
    rcases hds d h1 with q | q
    · exact absurd (h3.symm.trans q.cl) hc
    · exact ⟨q.2, h2, h3⟩
  have init : ∀ c : Str, c ≠ "" → ∀ d, fndD ds c "__init__" = some d → ∀ f, d.fs.contains f = true → ∃ C, PySem.W.nsIn K mainGlobals c = some (some (.ref C)) ∧ Cls K C ∧ NoAttr K C f := fun c hc d hd f hf => by
    obtain ⟨q, h2, h3⟩ := isM hc hd
    obtain ⟨C, st, a, fd, n, qn, e1, e2, e3, e4, e5, e6, e7, e8, e9, e10⟩ := q.ex
    rw [h3] at e1
    exact ⟨C, e1, e3, (e10 h2).2.2 f (by simpa using hf)⟩
  intro k
  induction k using Nat.strongRecOn with
  | _ k IH =>
  cases k with
  | zero => exact ⟨fun f g h => (by have h : (none : Option Gfun) = some g := h; cases h), fun c m g h => (by have h : (none : Option Gfun) = some g := h; cases h), fun c g h => (by have h : (none : Option Gfun) = some g := h; cases h), fun c f h => (by have h : false = true := h; cases h)⟩
  | succ k =>
    have ih := IH k (Nat.lt_succ_self k)
    refine ⟨fun f g h => ?_, fun c m g h => ?_, fun c g h => ?_, fun c f h => ?_⟩
    · have h : (fndD ds "" f).map (runDef (sigOf ds k)) = some g := h
      rw [Option.map_eq_some_iff] at h
      obtain ⟨d, hd, rfl⟩ := h
      obtain ⟨hm, rfl, hcl⟩ := find_mem hd
      rcases hds d hm with q | q
      · obtain ⟨st, a, fd, n, F, hmg, hb, hS, hnp, hc⟩ := q.ex
        exact ⟨a, fd, d.N.take d.np, hmg, F.kp, hb, def_ok F hS hnp hc ih blt⟩
      · exact absurd hcl q.1
    · have h : (if c = "" ∨ m = "__init__" then none else (fndD ds c m).map (runDef (sigOf ds k))) = some g := h
      split at h
      · cases h
      · rename_i hcm
        rw [Option.map_eq_some_iff] at h
        obtain ⟨d, hd, rfl⟩ := h
        obtain ⟨q, rfl, rfl⟩ := isM (fun z => hcm (.inl z)) hd
        obtain ⟨C, st, a, fd, n, qn, e1, e2, e3, e4, e5, e6, e7, e8, e9, e10⟩ := q.ex
        exact ⟨C, a, fd, _, e1, e3, e4, e6, def_ok e5 e7 e8 e9 ih blt⟩
    · cases k with
      | zero => have h : (if (0 : Nat) = 0 ∨ c = "" then none else (fndD ds c "__init__").map (runDef sigE)) = some g := h; simp at h
      | succ j =>
        have h : (if j + 1 = 0 ∨ c = "" then none else (fndD ds c "__init__").map (runDef (sigOf ds j))) = some g := h
        split at h
        · cases h
        · rename_i hc
          have hc : c ≠ "" := fun z => hc (.inr z)
          rw [Option.map_eq_some_iff] at h
          obtain ⟨d, hd, rfl⟩ := h
          obtain ⟨q, h2, rfl⟩ := isM hc hd
          obtain ⟨C, st, a, fd, n, qn, e1, e2, e3, e4, e5, e6, e7, e8, e9, e10⟩ := q.ex
          obtain ⟨z1, z2, _⟩ := e10 h2
          have ihj : SigOk P w K mg base j (sigOf ds j) := IH j (by omega)
          exact ⟨C, a, fd, _, j + 1, rfl, e2, e1, z1, e6, def_ok e5 e7 e8 e9 ihj blt, z2⟩
    · have h : (if c = "" then false else match fndD ds c "__init__" with
        | some d => d.fs.contains f
        | none => false) = true := h
      split at h
      · cases h
      · rename_i hc
        split at h
        · rename_i d hd
          exact init c hc d hd f h
        · cases h
end
end Px
set_option Elab.async false
set_option linter.all false
set_option maxRecDepth 100000
set_option maxHeartbeats 2000000
namespace Px
open PySem PySem.Spec PyProof.Rows L2
def spLaw (K : PySem.W.Frag) : Sp := fun vs H Q _ => ∃ (a : Addr) (ns : List Int), vs = [.ref a] ∧ SqL K H a (ns.map V.int) ∧ ns.length ≤ 63 ∧ ∀ H', Q (.bl true) H'
theorem rep_ints {K : PySem.W.Frag} {F : Hp} : ∀ ns : List Int, RepAll K F (ns.map V.int) (ns.map D.int)
  | [] => .nil
  | n :: ns => .cons (.int n) (rep_ints ns)
/-- what is to be shown of a law: its def, by the evaluator, gives True at each script -/
def Law (ds : List Def) (d : Def) (k : Nat) : Prop := ∀ ns : List Int, ns.length ≤ 63 → ∃ outs, runDef (sigOf ds k) d [.dat (.lst (ns.map D.int))] = .ok (.dat (.bl true), outs)
theorem law_fn {P : Program} {w : World} {K : PySem.W.Frag} {mg : Str → Option Value} {base : Heap} {ds : List Def} {d : Def} {k : Nat} {a : Addr} {fd : FuncData} {ps : List Str} (h : Law ds d k) (F : FnOk P w K mg base CX0 (k + 1) a fd ps (spOf K (runDef (sigOf ds k) d))) (hp : ps.length = 1) :
    FnOk P w K mg base CX0 (k + 1) a fd ps (spLaw K) := by
  refine F.imp fun vs H Q E ⟨b, ns, e, hS, hl, q⟩ => ?_
  subst e
  obtain ⟨outs, ho⟩ := h ns hl
  refine ⟨H, _, _, outs, Ex.refl H, .cons (show ArgOk K H H (.ref b) (.dat (.lst (ns.map D.int))) from Rep.lst hS (rep_ints ns)) .nil, fun i j xs ys hij h1 h2 => ?_, ho, fun v F' H' c => ?_⟩
  · cases i with
    | zero => simp at h1
    | succ i => simp at h1
  · cases (show Rep K F' v (.bl true) from c.res)
    exact q H'
theorem law_sp {K : PySem.W.Frag} {H : Hp} {a : Addr} {ns : List Int} (hl : ns.length ≤ 63) (hS : SqL K H a (ns.map V.int)) : spLaw K [.ref a] H (fun v _ => v = .bl true) (fun _ _ _ => False) := ⟨a, ns, rfl, hS, hl, fun _ => rfl⟩
/-- a def of the top -/
theorem defIn_mk {K : PySem.W.Frag} {h : Heap} {mg : Str → Option Value} {d : Def} {st : Stmt} {f : Addr} {n : Nat} {oc kV dc pm cd ct : Value} {od an : Option Addr} {sl : Array (Option Value)} (X : K.In h) (G : h.Ns mainGlobals mg)
    (a : PySem.W.nsIn K mainGlobals d.nm = some (some (.ref f))) (l : K.lookup f = some ⟨oc, od, .func (PySem.W.fnOf d.nm d.nm (defArgs st) (defBody st) (defScope st) .none kV dc pm an cd ct), sl⟩) (c : PySem.W.codeIn K cd d.nm = true) (k : PySem.W.keepIn K (.ref f) = true)
    (hb : ∀ (kV doc pm : Value) (an : Option Addr) (cdv ct : Value) (us : List Value), us.length = (d.N.take d.np).length → bindArgs (PySem.W.fnOf d.nm d.nm (defArgs st) (defBody st) (defScope st) .none kV doc pm an cdv ct) ⟨us, []⟩ = pure ((d.N.take d.np).zip us))
    (hS : FnScope d.N (d.N.take d.np) (defScope st)) (hnp : d.np ≤ d.N.length) (hc : ckSs n d.N (defScope st) d.body (defBody st) = true) (h0 : d.cl = "") : DefIn K mg d :=
  have F := fun_mk (st := st) l c k
  ⟨h0, st, f, _, n, F, PySem.W.mg_of X G a, F.binds hb, hS, hnp, hc⟩
/-- what the classes of the top are -/
structure ClsIn (K : PySem.W.Frag) (c : Str) (C : Addr) : Prop where
  at_ : PySem.W.nsIn K mainGlobals c = some (some (.ref C))
  is : IsiC K C
  mks : PySem.W.makesIn K C = true
  kp : PySem.W.keepIn K (.ref C) = true
/-- a method of a class of the top -/
theorem mthIn_mk {K : PySem.W.Frag} {h : Heap} {mg : Str → Option Value} {d : Def} {st : Stmt} {C f : Addr} {q : Str} {n : Nat} {oc kV dc pm cd ct : Value} {od an : Option Addr} {sl : Array (Option Value)} (X : K.In h) (G : h.Ns mainGlobals mg) (hC : ClsIn K d.cl C)
    (a : PySem.W.findIn K (.ref C) d.nm = some (some (.ref f))) (i : PySem.W.isFn K (.ref f) = true) (l : K.lookup f = some ⟨oc, od, .func (PySem.W.fnOf d.nm q (defArgs st) (defBody st) (defScope st) .none kV dc pm an cd ct), sl⟩) (c : PySem.W.codeIn K cd q = true) (k : PySem.W.keepIn K (.ref f) = true)
    (hb : ∀ (kV doc pm : Value) (an : Option Addr) (cdv ct : Value) (us : List Value), us.length = (d.N.take d.np).length → bindArgs (PySem.W.fnOf d.nm q (defArgs st) (defBody st) (defScope st) .none kV doc pm an cdv ct) ⟨us, []⟩ = pure ((d.N.take d.np).zip us))
    (hS : FnScope d.N (d.N.take d.np) (defScope st)) (hnp : d.np ≤ d.N.length) (hc : ckSs n d.N (defScope st) d.body (defBody st) = true) (h0 : d.cl ≠ "") (hf : d.nm = "__init__" → ∀ f ∈ d.fs, NoAttr K C f) : d.cl ≠ "" ∧ MthIn K mg d :=
  have F := fun_mk (st := st) l c k
  ⟨h0, C, st, f, _, n, q, hC.at_, PySem.W.mg_of X G hC.at_, hC.is.cl, ⟨a, i, k⟩, F, F.binds hb, hS, hnp, hc, fun e => ⟨⟨hC.mks, by rw [← e]; exact a, i, hC.kp⟩, hC.is, hf e⟩⟩
end Px

set_option Elab.async false
set_option linter.all false
set_option maxRecDepth 100000
set_option maxHeartbeats 2000000
/-! symbolic steps through the evaluator -/
namespace Py
open PySem L2 Px
@[simp] theorem _root_.Px.Out.bind_okS {α β : Type} (a : α) (f : α → Out β) : (Out.ok a).bind f = f a := rfl
@[simp] theorem _root_.Px.Out.of_someS {α : Type} (a : α) : Out.of (some a) = .ok a := rfl
def callD (G : Sig) (f : Str) (as : List Slot) : Out (Slot × PEnv) := match G f with
  | some g => g as
  | none => .bad
/-- a call of data: what it gives -/
def callV (G : Sig) (f : Str) (ds : List D) : Out Slot := (callD G f (ds.map .dat)).bind fun r => .ok r.1
theorem callR_D (G : Sig) (f : Str) (o : PEnv → Out (List Opd × PEnv)) (ρ : PEnv) : callR (G f) o ρ = (o ρ).bind fun q => (Out.of (argS q.2 q.1)).bind fun ss => (callD G f ss).bind fun r => if (slotsOf q.1).Nodup then (Out.of (backA r.2 0 q.1 q.2)).bind fun ρ2 => .ok (r.1, ρ2) else .bad := by
  unfold callR callD
  cases h : G f with
  | some g => rfl
  | none =>
    cases o ρ with
    | bad => rfl
    | ok q =>
      show Out.bad = (Out.of (argS q.2 q.1)).bind _
      cases argS q.2 q.1 <;> rfl
theorem argS_vals (ρ : PEnv) : ∀ ds : List D, argS ρ (ds.map .val) = some (ds.map .dat)
  | [] => rfl
  | d :: ds => by
    show (argS ρ (ds.map .val)).map (Slot.dat d :: ·) = _
    rw [argS_vals ρ ds]; rfl
theorem backA_vals (outs : PEnv) : ∀ (ds : List D) (k : Nat) (ρ : PEnv), backA outs k (ds.map .val) ρ = some ρ
  | [], _, _ => rfl
  | d :: ds, k, ρ => backA_vals outs ds (k + 1) ρ
theorem slotsOf_vals : ∀ ds : List D, slotsOf (ds.map .val) = []
  | [] => rfl
  | d :: ds => slotsOf_vals ds
/-- a call whose arguments are values -/
theorem callR_vals {G : Sig} {f : Str} {o : PEnv → Out (List Opd × PEnv)} {ρ ρ1 : PEnv} {ds : List D} {r : Slot} (h1 : o ρ = .ok (ds.map .val, ρ1)) (h2 : callV G f ds = .ok r) : callR (G f) o ρ = .ok (r, ρ1) := by
  rw [callR_D, h1, Out.bind_okS]
  show (Out.of (argS ρ1 (ds.map .val))).bind _ = _
  rw [argS_vals, Out.of_someS, Out.bind_okS]
  unfold callV at h2
  obtain ⟨⟨s, outs⟩, e1, e2⟩ := Out.bind_ok h2
  rw [e1, Out.bind_okS]
  show (if (slotsOf (ds.map .val)).Nodup then (Out.of (backA outs 0 (ds.map .val) ρ1)).bind fun ρ2 => .ok (s, ρ2) else .bad) = _
  rw [slotsOf_vals, if_pos List.nodup_nil, backA_vals, Out.of_someS, Out.bind_okS]
  cases e2; rfl
/-- operands that are expressions -/
theorem opnds_nil {G : Sig} {ρ : PEnv} : opnds G [] ρ = .ok ([], ρ) := by unfold opnds; rfl
theorem opnds_ex {G : Sig} {e : E} {es : List Ar} {ρ ρ1 ρ2 : PEnv} {d : D} {ds : List Opd} (h : ev G e ρ = .ok (d, ρ1)) (h2 : opnds G es ρ1 = .ok (ds, ρ2)) : opnds G (.ex e :: es) ρ = .ok (.val d :: ds, ρ2) := by
  unfold opnds opnd; rw [h, Out.bind_okS, Out.bind_okS, h2]; rfl
theorem ev_call {G : Sig} {f : Str} {as : List Ar} {ρ ρ1 : PEnv} {ds : List D} {r : D} (h1 : opnds G as ρ = .ok (ds.map .val, ρ1)) (h2 : callV G f ds = .ok (.dat r)) : ev G (.call f as) ρ = .ok (r, ρ1) := by
  unfold ev; rw [callR_vals (G := G) (f := f) (o := fun ρ => opnds G as ρ) (ρ := ρ) h1 h2]; rfl
theorem evo_call {G : Sig} {f : Str} {as : List Ar} {ρ ρ1 : PEnv} {ds : List D} {r : Slot} (h1 : opnds G as ρ = .ok (ds.map .val, ρ1)) (h2 : callV G f ds = .ok r) : evo G (.call f as) ρ = .ok (r, ρ1) := by
  exact callR_vals (G := G) (f := f) (o := fun ρ => opnds G as ρ) (ρ := ρ) h1 h2
/-- one turn after the other -/
theorem compL_map {α : Type} {f : D → PEnv → Out (List D × PEnv)} {ρ : PEnv} {φ g : α → D} : ∀ {L : List α}, (∀ x ∈ L, f (φ x) ρ = .ok ([g x], ρ)) → compL f (L.map φ) ρ = .ok (L.map g, ρ)
  | [], _ => rfl
  | x :: xs, h => by
    show (f (φ x) ρ).bind _ = _
    rw [h x (List.mem_cons_self ..), Out.bind_okS]
    show (compL f (xs.map φ) ρ).bind _ = _
    rw [compL_map fun y hy => h y (List.mem_cons_of_mem _ hy), Out.bind_okS]
    rfl
theorem compL_filter {α : Type} {f : D → PEnv → Out (List D × PEnv)} {ρ : PEnv} {φ g : α → D} {p : α → Bool} : ∀ {L : List α}, (∀ x ∈ L, f (φ x) ρ = .ok (if p x then [g x] else [], ρ)) → compL f (L.map φ) ρ = .ok ((L.filter p).map g, ρ)
  | [], _ => rfl
  | x :: xs, h => by
    show (f (φ x) ρ).bind _ = _
    rw [h x (List.mem_cons_self ..), Out.bind_okS]
    show (compL f (xs.map φ) ρ).bind _ = _
    rw [compL_filter fun y hy => h y (List.mem_cons_of_mem _ hy), Out.bind_okS, List.filter_cons]
    cases p x <;> rfl
theorem sameB_refl {ik : IK} {ρ : PEnv} : sameB ik ρ ρ = true := by cases ik <;> simp [sameB]
/-- a comprehension without tests, whose parts change nothing -/
theorem ev_compM {α : Type} {G : Sig} {vs : List Nat} {tg : Bool × List Nat} {ik : IK} {ies : List E} {elt : E} {ρ ρ1 : PEnv} {ds : List D} {L : List α} (φ g : α → D) (h1 : evs G ies ρ = .ok (ds, ρ1)) (h2 : itemsOf ρ1 ik ds = some (L.map φ)) (h3 : (vs.all fun v => !isOwn (getS ρ1 v)) = true) (hl : L.length < lim)
    (step : ∀ x ∈ L, ∃ ρ2 ρ3, setT (wipeP ρ1 vs) tg (φ x) = some ρ2 ∧ ev G elt ρ2 = .ok (g x, ρ3) ∧ sameB ik ρ1 ρ3 = true ∧ wipeP ρ3 vs = wipeP ρ1 vs) :
    ev G (.comp vs tg ik ies [] elt) ρ = .ok (.lst (L.map g), backP ρ1 (wipeP ρ1 vs) vs) := by
  unfold ev
  rw [h1, Out.bind_okS, h2, Out.of_someS, Out.bind_okS, if_pos h3]
  rw [compL_map (g := g) fun x hx => ?_]
  · rw [Out.bind_okS, if_pos (by simpa using hl)]
  · obtain ⟨ρ2, ρ3, a1, a2, a3, a4⟩ := step x hx
    rw [a1, Out.of_someS, Out.bind_okS]
    unfold evC
    rw [Out.bind_okS]
    show (ev G elt ρ2).bind _ = _
    rw [a2, Out.bind_okS]
    show (if sameB ik ρ1 ρ3 = true then Out.ok ([g x], wipeP ρ3 vs) else .bad) = _
    rw [if_pos a3, a4]
/-- a comprehension with tests -/
theorem ev_compF {α : Type} {G : Sig} {vs : List Nat} {tg : Bool × List Nat} {ik : IK} {ies : List E} {conds : List T} {elt : E} {ρ ρ1 : PEnv} {ds : List D} {L : List α} (φ g : α → D) (p : α → Bool) (h1 : evs G ies ρ = .ok (ds, ρ1)) (h2 : itemsOf ρ1 ik ds = some (L.map φ)) (h3 : (vs.all fun v => !isOwn (getS ρ1 v)) = true) (hl : L.length < lim)
    (step : ∀ x ∈ L, ∃ ρ2 ρ3, setT (wipeP ρ1 vs) tg (φ x) = some ρ2 ∧ evC G true conds ρ2 = .ok (p x, ρ3) ∧ (p x = false → sameB ik ρ1 ρ3 = true ∧ wipeP ρ3 vs = wipeP ρ1 vs) ∧ (p x = true → ∃ ρ4, ev G elt ρ3 = .ok (g x, ρ4) ∧ sameB ik ρ1 ρ4 = true ∧ wipeP ρ4 vs = wipeP ρ1 vs)) :
    ev G (.comp vs tg ik ies conds elt) ρ = .ok (.lst ((L.filter p).map g), backP ρ1 (wipeP ρ1 vs) vs) := by
  unfold ev
  rw [h1, Out.bind_okS, h2, Out.of_someS, Out.bind_okS, if_pos h3]
  rw [compL_filter (g := g) (p := p) fun x hx => ?_]
  · rw [Out.bind_okS, if_pos (by
      have := List.length_filter_le p L
      simp only [List.length_map]; omega)]
  · obtain ⟨ρ2, ρ3, a1, a2, a3, a4⟩ := step x hx
    rw [a1, Out.of_someS, Out.bind_okS, a2, Out.bind_okS]
    cases hp : p x with
    | false =>
      obtain ⟨b1, b2⟩ := a3 hp
      show (if sameB ik ρ1 ρ3 = true then Out.ok (([] : List D), wipeP ρ3 vs) else .bad) = _
      rw [if_pos b1, b2]; rfl
    | true =>
      obtain ⟨ρ4, b1, b2, b3⟩ := a4 hp
      show (ev G elt ρ3).bind _ = _
      rw [b1, Out.bind_okS]
      show (if sameB ik ρ1 ρ4 = true then Out.ok ([g x], wipeP ρ4 vs) else .bad) = _
      rw [if_pos b2, b3]; rfl
/-- a loop, whatever ends it -/
theorem forL_gen {α : Type} {f : D → PEnv → Out (Flw × PEnv)} {φ : α → D} {Q : Flw → PEnv → Prop} (I : List α → PEnv → Prop) (q : ∀ ρ, I [] ρ → Q .nx ρ)
    (step : ∀ x xs ρ, I (x :: xs) ρ → ∃ fl ρ', f (φ x) ρ = .ok (fl, ρ') ∧ match fl with | .nx => I xs ρ' | .cnt => I xs ρ' | .brk => Q .nx ρ' | f => Q f ρ') : ∀ (L : List α) (ρ : PEnv), I L ρ → ∃ fl ρ', forL f (L.map φ) ρ = .ok (fl, ρ') ∧ Q fl ρ'
  | [], ρ, h => ⟨.nx, ρ, rfl, q ρ h⟩
  | x :: xs, ρ, h => by
    obtain ⟨fl, ρ1, h1, h2⟩ := step x xs ρ h
    rw [List.map_cons]
    unfold forL
    rw [h1, Out.bind_okS]
    cases fl with
    | nx => exact forL_gen I q step xs ρ1 h2
    | cnt => exact forL_gen I q step xs ρ1 h2
    | brk => exact ⟨.nx, ρ1, rfl, h2⟩
    | ret s => exact ⟨.ret s, ρ1, rfl, h2⟩
/-- a loop that goes to its end: I of what is still to come -/
theorem forL_inv {α : Type} {f : D → PEnv → Out (Flw × PEnv)} {φ : α → D} (I : List α → PEnv → Prop) (step : ∀ x xs ρ, I (x :: xs) ρ → ∃ ρ', (f (φ x) ρ = .ok (.nx, ρ') ∨ f (φ x) ρ = .ok (.cnt, ρ')) ∧ I xs ρ') : ∀ (L : List α) (ρ : PEnv), I L ρ → ∃ ρ', forL f (L.map φ) ρ = .ok (.nx, ρ') ∧ I [] ρ'
  | [], ρ, h => ⟨ρ, rfl, h⟩
  | x :: xs, ρ, h => by
    obtain ⟨ρ1, h1, h2⟩ := step x xs ρ h
    obtain ⟨ρ2, h3, h4⟩ := forL_inv I step xs ρ1 h2
    refine ⟨ρ2, ?_, h4⟩
    show (f (φ x) ρ).bind _ = _
    rcases h1 with h1 | h1 <;> (rw [h1, Out.bind_okS]; exact h3)
/-- a loop that may return -/
theorem forL_ret {α : Type} {f : D → PEnv → Out (Flw × PEnv)} {φ : α → D} (I : List α → PEnv → Prop) (R : Slot → PEnv → Prop) (step : ∀ x xs ρ, I (x :: xs) ρ → (∃ ρ', f (φ x) ρ = .ok (.nx, ρ') ∧ I xs ρ') ∨ ∃ s ρ', f (φ x) ρ = .ok (.ret s, ρ') ∧ R s ρ') : ∀ (L : List α) (ρ : PEnv), I L ρ → (∃ ρ', forL f (L.map φ) ρ = .ok (.nx, ρ') ∧ I [] ρ') ∨ ∃ s ρ', forL f (L.map φ) ρ = .ok (.ret s, ρ') ∧ R s ρ'
  | [], ρ, h => .inl ⟨ρ, rfl, h⟩
  | x :: xs, ρ, h => by
    rcases step x xs ρ h with ⟨ρ1, h1, h2⟩ | ⟨s, ρ1, h1, h2⟩
    · rcases forL_ret I R step xs ρ1 h2 with ⟨ρ2, h3, h4⟩ | ⟨s, ρ2, h3, h4⟩
      · refine .inl ⟨ρ2, ?_, h4⟩
        show (f (φ x) ρ).bind _ = _
        rw [h1, Out.bind_okS]; exact h3
      · refine .inr ⟨s, ρ2, ?_, h4⟩
        show (f (φ x) ρ).bind _ = _
        rw [h1, Out.bind_okS]; exact h3
    · refine .inr ⟨s, ρ1, ?_, h2⟩
      show (f (φ x) ρ).bind _ = _
      rw [h1, Out.bind_okS]
/-! statements, by what they leave -/
def WS1 (G : Sig) (s : S) (ρ : PEnv) (Q : Flw → PEnv → Prop) : Prop := ∃ fl ρ', ex G s ρ = .ok (fl, ρ') ∧ Q fl ρ'
def WSs (G : Sig) (ss : List S) (ρ : PEnv) (Q : Flw → PEnv → Prop) : Prop := ∃ fl ρ', exs G ss ρ = .ok (fl, ρ') ∧ Q fl ρ'
theorem ws_nil {G : Sig} {ρ : PEnv} {Q : Flw → PEnv → Prop} (h : Q .nx ρ) : WSs G [] ρ Q := ⟨_, _, by unfold exs; rfl, h⟩
theorem ws_cons {G : Sig} {s : S} {ss : List S} {ρ : PEnv} {Q : Flw → PEnv → Prop} (h : WS1 G s ρ fun fl ρ' => match fl with | .nx => WSs G ss ρ' Q | f => Q f ρ') : WSs G (s :: ss) ρ Q := by
  obtain ⟨fl, ρ1, h1, h2⟩ := h
  cases fl with
  | nx =>
    obtain ⟨fl2, ρ2, h3, h4⟩ := h2
    exact ⟨fl2, ρ2, by unfold exs; rw [h1, Out.bind_okS]; exact h3, h4⟩
  | brk => exact ⟨_, _, by unfold exs; rw [h1, Out.bind_okS], h2⟩
  | cnt => exact ⟨_, _, by unfold exs; rw [h1, Out.bind_okS], h2⟩
  | ret r => exact ⟨_, _, by unfold exs; rw [h1, Out.bind_okS], h2⟩
theorem ws_set {G : Sig} {i : Nat} {e : E} {ρ ρ1 : PEnv} {d : D} {Q : Flw → PEnv → Prop} (h : ev G e ρ = .ok (d, ρ1)) (q : Q .nx (ρ1.set i (some (.dat d)))) : WS1 G (.set false i e) ρ Q := ⟨_, _, by unfold ex; rw [h]; rfl, q⟩
theorem ws_seto {G : Sig} {i : Nat} {e : E} {ρ ρ1 : PEnv} {d : Slot} {Q : Flw → PEnv → Prop} (h : evo G e ρ = .ok (d, ρ1)) (q : Q .nx (ρ1.set i (some d))) : WS1 G (.set true i e) ρ Q := ⟨_, _, by unfold ex; rw [h]; rfl, q⟩
theorem ws_ret {G : Sig} {e : E} {ρ ρ1 : PEnv} {d : Slot} {Q : Flw → PEnv → Prop} (h : evo G e ρ = .ok (d, ρ1)) (q : Q (.ret d) ρ1) : WS1 G (.ret e) ρ Q := ⟨_, _, by unfold ex; rw [h]; rfl, q⟩
theorem ws_ite {G : Sig} {c : T} {a b : List S} {ρ ρ1 : PEnv} {t : Bool} {Q : Flw → PEnv → Prop} (h : evT G c ρ = .ok (t, ρ1)) (q1 : t = true → WSs G a ρ1 Q) (q2 : t = false → WSs G b ρ1 Q) : WS1 G (.ite c a b) ρ Q := by
  cases t with
  | true =>
    obtain ⟨fl, ρ2, h1, h2⟩ := q1 rfl
    exact ⟨fl, ρ2, by unfold ex; rw [h]; exact h1, h2⟩
  | false =>
    obtain ⟨fl, ρ2, h1, h2⟩ := q2 rfl
    exact ⟨fl, ρ2, by unfold ex; rw [h]; exact h1, h2⟩
theorem ws_loop {α : Type} {G : Sig} {tg : Bool × List Nat} {ik : IK} {ies : List E} {body : List S} {ρ ρ1 : PEnv} {ds : List D} {L : List α} {Q : Flw → PEnv → Prop} (φ : α → D) (I : List α → PEnv → Prop) (h1 : evs G ies ρ = .ok (ds, ρ1)) (h2 : itemsOf ρ1 ik ds = some (L.map φ)) (h3 : freeB ik (tg.2 ++ wrs body) = true)
    (h0 : I L ρ1) (step : ∀ x xs ρ, I (x :: xs) ρ → ∃ ρ2, setT ρ tg (φ x) = some ρ2 ∧ WSs G body ρ2 fun fl ρ' => sameB ik ρ1 ρ' = true ∧ match fl with | .nx => I xs ρ' | .cnt => I xs ρ' | .brk => Q .nx ρ' | f => Q f ρ')
    (q : ∀ ρ, I [] ρ → Q .nx ρ) : WS1 G (.loop tg ik ies body) ρ Q := by
  unfold WS1
  unfold ex
  rw [h1, Out.bind_okS, h2, Out.of_someS, Out.bind_okS, if_pos h3]
  refine forL_gen I q (fun x xs ρ h => ?_) L ρ1 h0
  obtain ⟨ρ2, a1, fl, ρ3, a2, a3, a4⟩ := step x xs ρ h
  refine ⟨fl, ρ3, ?_, a4⟩
  show Out.bind _ _ = _
  rw [a1, Out.of_someS, Out.bind_okS, a2, Out.bind_okS, if_pos a3]
theorem wl_step {G : Sig} {c : T} {body : List S} {Q : Flw → PEnv → Prop} {n : Nat} {ρ ρ1 : PEnv} {t : Bool} (h : evT G c ρ = .ok (t, ρ1)) (q0 : t = false → Q .nx ρ1)
    (q1 : t = true → WSs G body ρ1 fun fl ρ' => match fl with | .nx => ∃ fl' ρ2, whileL (evT G c) (exs G body) n ρ' = .ok (fl', ρ2) ∧ Q fl' ρ2 | .cnt => ∃ fl' ρ2, whileL (evT G c) (exs G body) n ρ' = .ok (fl', ρ2) ∧ Q fl' ρ2 | .brk => Q .nx ρ' | f => Q f ρ') :
    ∃ fl' ρ2, whileL (evT G c) (exs G body) (n + 1) ρ = .ok (fl', ρ2) ∧ Q fl' ρ2 := by
  show ∃ fl' ρ2, Out.bind _ _ = _ ∧ _
  rw [h, Out.bind_okS]
  cases t with
  | false => exact ⟨.nx, ρ1, rfl, q0 rfl⟩
  | true =>
    obtain ⟨fl, ρ3, a1, a2⟩ := q1 rfl
    show ∃ fl' ρ2, Out.bind _ _ = _ ∧ _
    rw [a1, Out.bind_okS]
    cases fl with
    | nx => exact a2
    | cnt => exact a2
    | brk => exact ⟨.nx, ρ3, rfl, a2⟩
    | ret s => exact ⟨.ret s, ρ3, rfl, a2⟩
/-- a while loop, by a measure -/
theorem ws_while {G : Sig} {c : T} {body : List S} {Q : Flw → PEnv → Prop} {ρ : PEnv} (I : Nat → PEnv → Prop) (m : Nat) (hm : m < wlim) (h0 : I m ρ)
    (step : ∀ m ρ, I m ρ → ∃ t ρ1, evT G c ρ = .ok (t, ρ1) ∧ (t = false → Q .nx ρ1) ∧ (t = true → 0 < m ∧ WSs G body ρ1 fun fl ρ' => match fl with | .nx => ∃ m' < m, I m' ρ' | .cnt => ∃ m' < m, I m' ρ' | .brk => Q .nx ρ' | f => Q f ρ')) :
    WS1 G (.whil c body) ρ Q := by
  unfold WS1
  unfold ex
  have key : ∀ n m ρ, m < n → I m ρ → ∃ fl' ρ2, whileL (evT G c) (exs G body) n ρ = .ok (fl', ρ2) ∧ Q fl' ρ2 := by
    intro n
    induction n with
    | zero => exact fun m ρ h => absurd h (Nat.not_lt_zero _)
    | succ n ih =>
      intro m ρ hm hI
      obtain ⟨t, ρ1, a1, a2, a3⟩ := step m ρ hI
      refine wl_step a1 a2 fun ht => ?_
      obtain ⟨b1, fl, ρ', b2, b3⟩ := a3 ht
      refine ⟨fl, ρ', b2, ?_⟩
      cases fl with
      | nx => obtain ⟨m', c1, c2⟩ := b3; exact ih m' ρ' (by omega) c2
      | cnt => obtain ⟨m', c1, c2⟩ := b3; exact ih m' ρ' (by omega) c2
      | brk => exact b3
      | ret s => exact b3
  exact key wlim m ρ hm h0
/-- a def, by its body -/
theorem callV_run {ds : List Def} {k : Nat} {f : Str} {d : Def} {as : List D} {r : Slot} (hf : fndD ds "" f = some d) (hl : as.length = d.np ∧ d.np ≤ d.N.length)
    (h : WSs (sigOf ds k) d.body ((as.map fun a => some (.dat a)) ++ List.replicate (d.N.length - as.length) none) fun fl _ => match fl with | .nx => r = .dat .non | .ret s => r = s | _ => False) : callV (sigOf ds (k + 1)) f as = .ok r := by
  obtain ⟨fl, ρ', h1, h2⟩ := h
  unfold callV callD
  have e : sigOf ds (k + 1) f = some (runDef (sigOf ds k) d) := by
    show (fndD ds "" f).map (runDef (sigOf ds k)) = _
    rw [hf]; rfl
  rw [e]
  show (runDef (sigOf ds k) d (as.map .dat)).bind _ = _
  unfold runDef
  rw [if_pos (by simpa using hl)]
  simp only [List.map_map, List.length_map]
  show Out.bind (Out.bind (exs (sigOf ds k) d.body ((as.map fun a => some (Slot.dat a)) ++ List.replicate (d.N.length - as.length) none)) _) _ = _
  rw [h1, Out.bind_okS]
  have ho : ownArgs (as.map Slot.dat) (wrs d.body) ρ' = true := by
    unfold ownArgs
    rw [List.all_eq_true]
    intro j hj
    rw [List.getElem?_map]
    cases as[j]? <;> rfl
  rw [if_pos ho]
  cases fl with
  | nx => subst h2; rfl
  | ret s => subst h2; rfl
  | brk => exact h2.elim
  | cnt => exact h2.elim
end Py

set_option Elab.async false
set_option linter.all false
set_option maxRecDepth 100000
set_option maxHeartbeats 2000000
/-! the laws' own drawing -/
namespace Py
open PySem L2 Px
def d_law_start : Def := { nm := "_law_start", N := ["script"], np := 1, body := [
    .ret (.dsp false [.var 0, .con (.int 0), .con (.int 0), .con (.int 7)])] }
def d_law_pick : Def := { nm := "_law_pick", N := ["state", "limit", "cell", "drawn"], np := 2, body := [
    .ite (.bop true [.val (.ex (.prim (.cmp .Eq) [.ex (.prim .ix [.slot 0, .ex (.con (.int 2))]), .ex (.con (.int 0))])), .val (.ex (.prim (.cmp .Lt) [.ex (.prim .ix [.slot 0, .ex (.con (.int 1))]), .ex (.prim (.bi .len) [.ex (.prim .ix [.slot 0, .ex (.con (.int 0))])])]))]) [
    .set false 2 (.prim (.bi .abs) [.ex (.prim .ix [.ex (.prim .ix [.slot 0, .ex (.con (.int 0))]), .ex (.prim .ix [.slot 0, .ex (.con (.int 1))])])]),
    .seti 0 (.con (.int 1)) (.prim (.bin .Add) [.ex (.prim .ix [.slot 0, .ex (.con (.int 1))]), .ex (.con (.int 1))]),
    .ite (.val (.ex (.prim (.cmp .GtE) [.slot 2, .ex (.prim (.bin .Pow) [.ex (.con (.int 10)), .ex (.con (.int 18))])]))) [
    .seti 0 (.con (.int 2)) (.var 2)] [
    .seti 0 (.con (.int 3)) (.prim (.bin .Add) [.ex (.prim (.bin .Mod) [.ex (.prim (.bi .int) [.ex (.prim (.bin .Add) [.ex (.prim (.bin .Mult) [.ex (.prim .ix [.slot 0, .ex (.con (.int 3))]), .ex (.con (.int 48271))]), .slot 2])]), .ex (.con (.int 2147483646))]), .ex (.con (.int 1))])]] [],
    .ite (.val (.ex (.prim (.cmp .Gt) [.ex (.prim .ix [.slot 0, .ex (.con (.int 2))]), .ex (.con (.int 0))]))) [
    .set false 3 (.prim (.bin .Mod) [.ex (.prim (.bi .int) [.ex (.prim .ix [.slot 0, .ex (.con (.int 2))])]), .slot 1]),
    .seti 0 (.con (.int 2)) (.prim (.bin .FloorDiv) [.ex (.prim .ix [.slot 0, .ex (.con (.int 2))]), .slot 1]),
    .ret (.var 3)] [],
    .seti 0 (.con (.int 3)) (.prim (.bin .Mod) [.ex (.prim (.bi .int) [.ex (.prim (.bin .Mult) [.ex (.prim .ix [.slot 0, .ex (.con (.int 3))]), .ex (.con (.int 48271))])]), .ex (.con (.int 2147483647))]),
    .ret (.prim (.bin .Mod) [.ex (.prim (.bi .int) [.ex (.prim (.bin .Add) [.ex (.prim (.bin .FloorDiv) [.ex (.prim .ix [.slot 0, .ex (.con (.int 3))]), .ex (.con (.int 5))]), .ex (.prim (.bin .Mod) [.ex (.prim (.bi .int) [.ex (.prim (.bin .Mult) [.ex (.prim .ix [.slot 0, .ex (.con (.int 3))]), .ex (.prim .ix [.slot 0, .ex (.con (.int 3))])])]), .ex (.con (.int 2147483629))])])]), .slot 1])] }
def stOf (ns : List Int) (i b : Nat) (r : Int) : List D := [.lst (ns.map .int), .int i, .int b, .int r]
def Good (st : List D) : Prop := ∃ (ns : List Int) (i b : Nat) (r : Int), st = stOf ns i b r ∧ ns.length ≤ 63 ∧ 0 ≤ r ∧ r < 2147483648
theorem getS_0 {x : Option Slot} {ρ : PEnv} : getS (x :: ρ) 0 = x := rfl
theorem getS_s {x : Option Slot} {ρ : PEnv} {i : Nat} : getS (x :: ρ) (i + 1) = getS ρ i := rfl
theorem atI_0 {α : Type} {x : α} {xs : List α} : atI (x :: xs) 0 = some x := atI_nat (j := 0) rfl
theorem atI_1 {α : Type} {x y : α} {xs : List α} : atI (x :: y :: xs) 1 = some y := atI_nat (j := 1) rfl
theorem atI_2 {α : Type} {x y z : α} {xs : List α} : atI (x :: y :: z :: xs) 2 = some z := atI_nat (j := 2) rfl
theorem atI_3 {α : Type} {x y z w : α} {xs : List α} : atI (x :: y :: z :: w :: xs) 3 = some w := atI_nat (j := 3) rfl
theorem setAt_1 {x y : D} {xs : List D} {d : D} : setAt (x :: y :: xs) 1 d = some (x :: d :: xs) := by
  simp [setAt, ixN]; omega
theorem setAt_2 {x y z : D} {xs : List D} {d : D} : setAt (x :: y :: z :: xs) 2 d = some (x :: y :: d :: xs) := by
  simp [setAt, ixN]; omega
theorem setAt_3 {x y z w : D} {xs : List D} {d : D} : setAt (x :: y :: z :: w :: xs) 3 d = some (x :: y :: z :: d :: xs) := by
  simp [setAt, ixN]; omega
theorem eqF_int (i j : Int) : eqF (.int i) (.int j) = some (decide (i = j)) := by
  unfold eqF
  rw [if_pos ⟨rfl, rfl⟩]
  rfl
theorem log2_lt {n k : Nat} (h : n < 2 ^ k) (hk : 0 < k) : n.log2 < k := by
  by_cases h0 : n = 0
  · subst h0; simpa using hk
  · exact (Nat.log2_lt h0).mpr h
theorem mulI {i j : Int} {a b : Nat} (h1 : i.natAbs < 2 ^ a) (h2 : j.natAbs < 2 ^ b) (ha : 0 < a) (hb : 0 < b) (h : a + b ≤ 1000000) : binI .Mult i j = some (i * j) := by
  have := log2_lt h1 ha
  have := log2_lt h2 hb
  show (if _ then _ else _) = _
  rw [if_pos (by omega)]
theorem addI (i j : Int) : binI .Add i j = some (i + j) := rfl
theorem subI (i j : Int) : binI .Sub i j = some (i - j) := rfl
theorem fdI {i j : Int} (h : 0 < j) (h2 : j < 1073741824) : binI .FloorDiv i j = some (i / j) := by
  show (if _ then _ else _) = _
  rw [if_pos ⟨h, Nat.lt_of_lt_of_le (log2_lt (k := 30) (by omega) (by omega)) (by omega)⟩]
theorem mdI {i j : Int} (h : 0 < j) : binI .Mod i j = some (i % j) := by
  show (if _ then _ else _) = _
  rw [if_pos h]
theorem pwI : binI .Pow 10 18 = some 1000000000000000000 := by decide
def stepR (r c : Int) : Int := (r * 48271 + c) % 2147483646 + 1
def stepS (r : Int) : Int := (r * 48271) % 2147483647
theorem pick_tail (G : Sig) {ns : List Int} {m : Int} (hl : ns.length ≤ 63) (hm : 0 < m) (hm2 : m < 1073741824) (i b : Nat) (r : Int) (x : Option Slot) (h0 : 0 ≤ r) (h1 : r < 2147483648) :
    WSs G (d_law_pick.body.drop 1) [some (.own (stOf ns i b r)), some (.dat (.int m)), x, none] fun fl ρ' => ∃ d st', fl = .ret (.dat (.int d)) ∧ getS ρ' 0 = some (.own st') ∧ Good st' ∧ 0 ≤ d ∧ d < m := by
  unfold d_law_pick
  refine ws_cons (ws_ite (t := decide (0 < (b : Int))) (ρ1 := [some (.own (stOf ns i b r)), some (.dat (.int m)), x, none]) ?_ (fun ht => ?_) (fun hf => ?_))
  · simp [evT, opnd, ev, evo, evs, evC, evB, opnds, getS_0, getS_s, rdAll, rdO, Slot.frz, primF, ixF, stOf, atI_0, atI_1, atI_2, atI_3, setAt_1, setAt_2, setAt_3, cmpF, truD, biF, binF, freshP, isOwn, isOwnL, ex, eqF_int, addI, subI]
  · refine ws_cons (ws_set (d := .int ((b : Int) % m)) (ρ1 := [some (.own (stOf ns i b r)), some (.dat (.int m)), x, none]) ?_ ?_)
    · simp [evT, opnd, ev, evo, evs, evC, evB, opnds, getS_0, getS_s, rdAll, rdO, Slot.frz, primF, ixF, stOf, atI_0, atI_1, atI_2, atI_3, setAt_1, setAt_2, setAt_3, cmpF, truD, biF, binF, freshP, isOwn, isOwnL, ex, eqF_int, addI, subI, mdI hm]
    · refine ws_cons ⟨.nx, [some (.own (stOf ns i (b / m.toNat) r)), some (.dat (.int m)), x, some (.dat (.int ((b : Int) % m)))], ?_, ?_⟩
      · simp [evT, opnd, ev, evo, evs, evC, evB, opnds, getS_0, getS_s, rdAll, rdO, Slot.frz, primF, ixF, stOf, atI_0, atI_1, atI_2, atI_3, setAt_1, setAt_2, setAt_3, cmpF, truD, biF, binF, freshP, isOwn, isOwnL, ex, eqF_int, addI, subI, fdI hm hm2]
        have : (b : Int) / m = ((b / m.toNat : Nat) : Int) := by
          rw [Int.natCast_ediv, Int.toNat_of_nonneg (Int.le_of_lt hm)]
        rw [show max m 0 = m by omega]
      · refine ws_cons (ws_ret (d := .dat (.int ((b : Int) % m))) (ρ1 := [some (.own (stOf ns i (b / m.toNat) r)), some (.dat (.int m)), x, some (.dat (.int ((b : Int) % m)))]) ?_ ?_)
        · simp [evT, opnd, ev, evo, evs, evC, evB, opnds, getS_0, getS_s, rdAll, rdO, Slot.frz, primF, ixF, stOf, atI_0, atI_1, atI_2, atI_3, setAt_1, setAt_2, setAt_3, cmpF, truD, biF, binF, freshP, isOwn, isOwnL, ex, eqF_int, addI, subI]
        · exact ⟨_, _, rfl, rfl, ⟨ns, _, _, _, rfl, hl, h0, h1⟩, Int.emod_nonneg _ (by omega), Int.emod_lt_of_pos _ hm⟩
  · have e0 : binI .Mult r 48271 = some (r * 48271) := mulI (a := 40) (b := 20) (by omega) (by decide) (by decide) (by decide) (by decide)
    have g0 : 0 ≤ stepS r := Int.emod_nonneg _ (by decide)
    have g1 : stepS r < 2147483648 := Int.lt_trans (Int.emod_lt_of_pos _ (by decide)) (by decide)
    have e1 : binI .Mult (stepS r) (stepS r) = some (stepS r * stepS r) := mulI (a := 40) (b := 40) (by omega) (by omega) (by decide) (by decide) (by decide)
    refine ws_nil ?_
    refine ws_cons ⟨.nx, [some (.own (stOf ns i b (stepS r))), some (.dat (.int m)), x, none], ?_, ?_⟩
    · simp [evT, opnd, ev, evo, evs, evC, evB, opnds, getS_0, getS_s, rdAll, rdO, Slot.frz, primF, ixF, stOf, atI_0, atI_1, atI_2, atI_3, setAt_1, setAt_2, setAt_3, cmpF, truD, biF, binF, freshP, isOwn, isOwnL, ex, eqF_int, addI, subI, e0, mdI, stepS]
    · have e2 : binI .FloorDiv (stepS r) 5 = some (stepS r / 5) := fdI (by decide) (by decide)
      refine ws_cons (ws_ret (d := .dat (.int ((stepS r / 5 + stepS r * stepS r % 2147483629) % m))) (ρ1 := [some (.own (stOf ns i b (stepS r))), some (.dat (.int m)), x, none]) ?_ ?_)
      · simp [evT, opnd, ev, evo, evs, evC, evB, opnds, getS_0, getS_s, rdAll, rdO, Slot.frz, primF, ixF, stOf, atI_0, atI_1, atI_2, atI_3, setAt_1, setAt_2, setAt_3, cmpF, truD, biF, binF, freshP, isOwn, isOwnL, ex, eqF_int, addI, subI, e1, e2, mdI hm, mdI (show (0 : Int) < 2147483629 by decide)]
      · exact ⟨_, _, rfl, rfl, ⟨ns, _, _, _, rfl, hl, g0, g1⟩, Int.emod_nonneg _ (by omega), Int.emod_lt_of_pos _ hm⟩
theorem pick_body (G : Sig) {ns : List Int} {i b : Nat} {r m : Int} (hl : ns.length ≤ 63) (h0 : 0 ≤ r) (h1 : r < 2147483648) (hm : 0 < m) (hm2 : m < 1073741824) :
    WSs G d_law_pick.body [some (.own (stOf ns i b r)), some (.dat (.int m)), none, none] fun fl ρ' => ∃ d st', fl = .ret (.dat (.int d)) ∧ getS ρ' 0 = some (.own st') ∧ Good st' ∧ 0 ≤ d ∧ d < m := by
  have T := pick_tail G hl hm hm2
  unfold d_law_pick at T ⊢
  refine ws_cons (ws_ite (t := decide (b = 0) && decide ((i : Int) < ns.length)) (ρ1 := [some (.own (stOf ns i b r)), some (.dat (.int m)), none, none]) ?_ (fun ht => ?_) (fun hf => ?_))
  · by_cases c : b = 0
    · simp [evT, opnd, ev, evo, evs, evC, evB, opnds, getS_0, getS_s, rdAll, rdO, Slot.frz, primF, ixF, stOf, atI_0, atI_1, atI_2, atI_3, setAt_1, setAt_2, setAt_3, cmpF, truD, biF, binF, freshP, isOwn, isOwnL, ex, eqF_int, addI, subI, c]
    · simp [evT, opnd, ev, evo, evs, evC, evB, opnds, getS_0, getS_s, rdAll, rdO, Slot.frz, primF, ixF, stOf, atI_0, atI_1, atI_2, atI_3, setAt_1, setAt_2, setAt_3, cmpF, truD, biF, binF, freshP, isOwn, isOwnL, ex, eqF_int, addI, subI, c]
  · simp only [Bool.and_eq_true, decide_eq_true_eq] at ht
    obtain ⟨rfl, hi⟩ := ht
    have hi' : i < ns.length := by omega
    have e : atI (ns.map D.int) (i : Int) = some (.int ns[i]) := atI_nat (by rw [List.getElem?_map, List.getElem?_eq_getElem hi']; rfl)
    generalize ns[i] = z at e
    refine ws_cons (ws_set (d := .int (if z < 0 then -z else z)) (ρ1 := [some (.own (stOf ns i 0 r)), some (.dat (.int m)), none, none]) ?_ ?_)
    · simp [evT, opnd, ev, evo, evs, evC, evB, opnds, getS_0, getS_s, rdAll, rdO, Slot.frz, primF, ixF, stOf, atI_0, atI_1, atI_2, atI_3, setAt_1, setAt_2, setAt_3, cmpF, truD, biF, binF, freshP, isOwn, isOwnL, ex, eqF_int, addI, subI, e]
    generalize hc : (if z < 0 then -z else z) = c
    have hc0 : 0 ≤ c := by
      subst hc
      split <;> omega
    refine ws_cons ⟨.nx, [some (.own (stOf ns (i + 1) 0 r)), some (.dat (.int m)), some (.dat (.int c)), none], ?_, ?_⟩
    · simp [evT, opnd, ev, evo, evs, evC, evB, opnds, getS_0, getS_s, rdAll, rdO, Slot.frz, primF, ixF, stOf, atI_0, atI_1, atI_2, atI_3, setAt_1, setAt_2, setAt_3, cmpF, truD, biF, binF, freshP, isOwn, isOwnL, ex, eqF_int, addI, subI]
    refine ws_cons (ws_ite (t := decide (1000000000000000000 ≤ c)) (ρ1 := [some (.own (stOf ns (i + 1) 0 r)), some (.dat (.int m)), some (.dat (.int c)), none]) ?_ (fun hb => ?_) (fun hb => ?_))
    · simp [evT, opnd, ev, evo, evs, evC, evB, opnds, getS_0, getS_s, rdAll, rdO, Slot.frz, primF, ixF, stOf, atI_0, atI_1, atI_2, atI_3, setAt_1, setAt_2, setAt_3, cmpF, truD, biF, binF, freshP, isOwn, isOwnL, ex, eqF_int, addI, subI, pwI]
    · refine ws_cons ⟨.nx, [some (.own (stOf ns (i + 1) c.toNat r)), some (.dat (.int m)), some (.dat (.int c)), none], ?_, ?_⟩
      · simp [evT, opnd, ev, evo, evs, evC, evB, opnds, getS_0, getS_s, rdAll, rdO, Slot.frz, primF, ixF, stOf, atI_0, atI_1, atI_2, atI_3, setAt_1, setAt_2, setAt_3, cmpF, truD, biF, binF, freshP, isOwn, isOwnL, ex, eqF_int, addI, subI, Int.toNat_of_nonneg hc0]
      exact ws_nil (ws_nil (T (i + 1) c.toNat r _ h0 h1))
    · simp only [decide_eq_false_iff_not] at hb
      have e0 : binI .Mult r 48271 = some (r * 48271) := mulI (a := 40) (b := 20) (by omega) (by decide) (by decide) (by decide) (by decide)
      refine ws_cons ⟨.nx, [some (.own (stOf ns (i + 1) 0 (stepR r c))), some (.dat (.int m)), some (.dat (.int c)), none], ?_, ?_⟩
      · simp [evT, opnd, ev, evo, evs, evC, evB, opnds, getS_0, getS_s, rdAll, rdO, Slot.frz, primF, ixF, stOf, atI_0, atI_1, atI_2, atI_3, setAt_1, setAt_2, setAt_3, cmpF, truD, biF, binF, freshP, isOwn, isOwnL, ex, eqF_int, addI, subI, e0, mdI, stepR]
      have g0 : 0 ≤ stepR r c := Int.le_add_one (Int.emod_nonneg _ (by decide))
      have g1 : stepR r c < 2147483648 := by
        have := Int.emod_lt_of_pos (r * 48271 + c) (show (0 : Int) < 2147483646 by decide)
        unfold stepR
        omega
      exact ws_nil (ws_nil (T (i + 1) 0 _ _ g0 g1))
  · exact ws_nil (T i b r none h0 h1)
end Py

set_option Elab.async false
set_option linter.all false
set_option maxRecDepth 100000
set_option maxHeartbeats 2000000
namespace Py
open PySem L2 Px
section
variable {G : Sig} {ρ : PEnv}
theorem opnds_nilS : opnds G [] ρ = .ok ([], ρ) := by rw [opnds]
theorem opnds_consS {a : Ar} {as : List Ar} : opnds G (a :: as) ρ = (opnd G a ρ).bind fun q => (opnds G as q.2).bind fun r => .ok (q.1 :: r.1, r.2) := by rw [opnds]
theorem opnd_slot {i : Nat} : opnd G (.slot i) ρ = match getS ρ i with | some _ => .ok (.slot i, ρ) | none => .bad := by rw [opnd] <;> rfl
theorem opnd_ex {e : E} : opnd G (.ex e) ρ = (ev G e ρ).bind fun q => .ok (.val q.1, q.2) := by rw [opnd]
theorem ev_var {i : Nat} : ev G (.var i) ρ = match getS ρ i with
    | some (.dat d) => .ok (d, ρ)
    | some (.mo (.lst xs)) => .ok (.lst xs, ρ.set i (some (.dat (.lst xs))))
    | _ => .bad := by rw [ev] <;> rfl
theorem ev_con {d : D} : ev G (.con d) ρ = .ok (d, ρ) := by rw [ev]
theorem ev_prim {p : P} {as : List Ar} : ev G (.prim p as) ρ = (opnds G as ρ).bind fun q => (Out.of (rdAll q.2 q.1)).bind fun ds => (Out.of (primF p ds)).bind fun d => .ok (d, q.2) := by rw [ev]
theorem ev_dsp {b : Bool} {es : List E} : ev G (.dsp b es) ρ = (evs G es ρ).bind fun q => if q.1.length ≤ lim then .ok (if b then .tup q.1 else .lst q.1, q.2) else .bad := by rw [ev]
theorem ev_bop {c : Bool} {es : List E} : ev G (.bop c es) ρ = evB G c es ρ := by rw [ev]
theorem ev_not {a : E} : ev G (.not a) ρ = (ev G a ρ).bind fun q => match q.1 with | .bl b => .ok (.bl (!b), q.2) | _ => .bad := by rw [ev] <;> rfl
theorem ev_ite {c : T} {a b : E} : ev G (.ite c a b) ρ = (evT G c ρ).bind fun q => match q.1 with | true => ev G a q.2 | false => ev G b q.2 := by rw [ev] <;> rfl
theorem ev_isi {a : Ar} {ty : IT} : ev G (.isi a ty) ρ = (opnd G a ρ).bind fun q => (Out.of (rdO q.2 q.1)).bind fun d => if d.isObj = true then .bad else .ok (.bl (isiF d ty), q.2) := by rw [ev]
theorem ev_callS {f : Str} {as : List Ar} : ev G (.call f as) ρ = (opnds G as ρ).bind fun q => (Out.of (argS q.2 q.1)).bind fun ss => (callD G f ss).bind fun r => if (slotsOf q.1).Nodup then (Out.of (backA r.2 0 q.1 q.2)).bind fun ρ2 => .ok (r.1.frz, ρ2) else .bad := by
  rw [ev, callR_D]
  cases opnds G as ρ with
  | bad => rfl
  | ok q =>
    simp only [Out.bind_okS]
    cases argS q.2 q.1 with
    | none => rfl
    | some ss =>
      simp only [Out.of_someS, Out.bind_okS]
      cases callD G f ss with
      | bad => rfl
      | ok r =>
        simp only [Out.bind_okS]
        split
        · cases backA r.2 0 q.1 q.2 <;> rfl
        · rfl
theorem evs_nil : evs G [] ρ = .ok ([], ρ) := by rw [evs]
theorem evs_cons {e : E} {es : List E} : evs G (e :: es) ρ = (ev G e ρ).bind fun q => (evs G es q.2).bind fun r => .ok (q.1 :: r.1, r.2) := by rw [evs]
theorem evC_nil {c : Bool} : evC G c [] ρ = .ok (c, ρ) := by rw [evC]
theorem evC_cons {c : Bool} {t : T} {ts : List T} : evC G c (t :: ts) ρ = (evT G t ρ).bind fun q => if q.1 = c then evC G c ts q.2 else .ok (q.1, q.2) := by rw [evC]
theorem evB_one {c : Bool} {e : E} : evB G c [e] ρ = ev G e ρ := by
  rw [evB]
  cases ev G e ρ <;> rfl
theorem evB_more {c : Bool} {e e2 : E} {es : List E} : evB G c (e :: e2 :: es) ρ = (ev G e ρ).bind fun q => match q.1 with | .bl b => if b = c then evB G c (e2 :: es) q.2 else .ok (.bl b, q.2) | _ => .bad := by rw [evB] <;> rfl
theorem evT_bop {c : Bool} {ts : List T} : evT G (.bop c ts) ρ = evC G c ts ρ := by rw [evT]
theorem evT_not {a : T} : evT G (.not a) ρ = (evT G a ρ).bind fun q => .ok (!q.1, q.2) := by rw [evT]
theorem evT_val {a : Ar} : evT G (.val a) ρ = (opnd G a ρ).bind fun q => (Out.of (rdO q.2 q.1)).bind fun d => (Out.of (truD d)).bind fun t => .ok (t, q.2) := by rw [evT]
theorem evo_var {i : Nat} : evo G (.var i) ρ = match getS ρ i with
    | some (.dat d) => .ok (.dat d, ρ)
    | some (.mo (.lst xs)) => .ok (.own xs, ρ.set i none)
    | _ => .bad := rfl
theorem evo_call' {f : Str} {as : List Ar} : evo G (.call f as) ρ = (opnds G as ρ).bind fun q => (Out.of (argS q.2 q.1)).bind fun ss => (callD G f ss).bind fun r => if (slotsOf q.1).Nodup then (Out.of (backA r.2 0 q.1 q.2)).bind fun ρ2 => .ok (r.1, ρ2) else .bad := callR_D G f _ ρ
theorem evo_dsp {es : List E} : evo G (.dsp false es) ρ = (evs G es ρ).bind fun q => if q.1.length ≤ lim then .ok (.own q.1, q.2) else .bad := by
  show (ev G (.dsp false es) ρ).bind _ = _
  rw [ev_dsp]
  cases evs G es ρ with
  | bad => rfl
  | ok q =>
    simp only [Out.bind_okS]
    split <;> rfl
theorem evo_dspT {es : List E} : evo G (.dsp true es) ρ = (ev G (.dsp true es) ρ).bind fun q => .ok (.dat q.1, q.2) := rfl
theorem evo_prim {p : P} {as : List Ar} : evo G (.prim p as) ρ = (ev G (.prim p as) ρ).bind fun q => match freshP p, q.1 with
    | true, .lst xs => .ok (.own xs, q.2)
    | _, d => .ok (.dat d, q.2) := rfl
theorem evo_con {d : D} : evo G (.con d) ρ = .ok (.dat d, ρ) := by
  simp only [evo, ev_con, Out.bind_okS]
theorem evo_bop {c : Bool} {es : List E} : evo G (.bop c es) ρ = (evB G c es ρ).bind fun q => .ok (.dat q.1, q.2) := by
  show (ev G (.bop c es) ρ).bind _ = _
  rw [ev_bop]
theorem evo_not {a : E} : evo G (.not a) ρ = (ev G (.not a) ρ).bind fun q => .ok (.dat q.1, q.2) := rfl
theorem evo_ite {c : T} {a b : E} : evo G (.ite c a b) ρ = (ev G (.ite c a b) ρ).bind fun q => .ok (.dat q.1, q.2) := rfl
theorem evo_isi {a : Ar} {ty : IT} : evo G (.isi a ty) ρ = (ev G (.isi a ty) ρ).bind fun q => .ok (.dat q.1, q.2) := rfl
theorem evo_comp {vs : List Nat} {tg : Bool × List Nat} {ik : IK} {ies : List E} {conds : List T} {elt : E} {xs : List D} {ρ1 : PEnv} (h : ev G (.comp vs tg ik ies conds elt) ρ = .ok (.lst xs, ρ1)) : evo G (.comp vs tg ik ies conds elt) ρ = .ok (.own xs, ρ1) := by
  show (ev G (.comp vs tg ik ies conds elt) ρ).bind _ = _
  rw [h]; rfl
theorem rng_nat {n : Nat} (h : n ≤ lim) : itemsOf ρ .rng [.int (n : Int)] = some ((List.range n).map fun k => .int (k : Int)) := by
  have h2 : n ≤ 16777216 := h
  show (if okRng (n : Int) then some (rngItems 0 n) else none) = _
  rw [if_pos (by simp [okRng]; omega)]
  unfold rngItems
  simp
theorem rng_two {a n : Nat} (h : a ≤ lim) (h' : n ≤ lim) : itemsOf ρ .rng [.int (a : Int), .int (n : Int)] = some ((List.range (n - a)).map fun k => .int ((a + k : Nat) : Int)) := by
  have h2 : n ≤ 16777216 := h'
  have h3 : a ≤ 16777216 := h
  show (if okRng (a : Int) && okRng (n : Int) then some (rngItems a n) else none) = _
  rw [if_pos (by simp [okRng]; omega)]
  unfold rngItems
  rw [show ((n : Int) - a).toNat = n - a by omega]
  simp
theorem callV_D {f : Str} {ds : List D} {r : Slot} (h : callV G f ds = .ok r) : ∃ outs, callD G f (ds.map .dat) = .ok (r, outs) := by
  unfold callV at h
  obtain ⟨⟨s, outs⟩, h1, h2⟩ := Out.bind_ok h
  cases h2
  exact ⟨outs, h1⟩
end
/-! ### a draw -/
abbrev fnd (ds : List Def) (f : Str) : Option Def := fndD ds "" f
theorem find_run {ds : List Def} {k : Nat} {f : Str} {d : Def} (hf : fnd ds f = some d) : sigOf ds (k + 1) f = some (runDef (sigOf ds k) d) := by
  show (fndD ds "" f).map (runDef (sigOf ds k)) = _
  rw [show fndD ds "" f = some d from hf]; rfl
theorem pick_D {ds : List Def} {k : Nat} (hf : fnd ds "_law_pick" = some d_law_pick) {st : List D} (hst : Good st) {m : Int} (hm : 0 < m) (hm2 : m < 1073741824) :
    ∃ d st' outs, callD (sigOf ds (k + 1)) "_law_pick" [.own st, .dat (.int m)] = .ok (.dat (.int d), outs) ∧ getS outs 0 = some (.own st') ∧ Good st' ∧ 0 ≤ d ∧ d < m := by
  obtain ⟨ns, i, b, r, rfl, hl, h0, h1⟩ := hst
  obtain ⟨fl, ρ', e, d, st', rfl, g, gd, d0, d1⟩ := pick_body (sigOf ds k) (ns := ns) (i := i) (b := b) (r := r) hl h0 h1 hm hm2
  refine ⟨d, st', ρ', ?_, g, gd, d0, d1⟩
  unfold callD
  rw [find_run hf]
  show runDef (sigOf ds k) d_law_pick [.own (stOf ns i b r), .dat (.int m)] = _
  unfold runDef
  rw [if_pos ⟨rfl, by decide⟩]
  show Out.bind (exs (sigOf ds k) d_law_pick.body [some (.own (stOf ns i b r)), some (.dat (.int m)), none, none]) _ = _
  rw [e, Out.bind_okS]
  have : ownArgs [.own (stOf ns i b r), .dat (.int m)] (wrs d_law_pick.body) ρ' = true := by
    have w : wrs d_law_pick.body = [2, 3] := by decide
    rw [w]
    unfold ownArgs
    show ([0, 1].all _) = true
    simp [isOwn, isOwnL, g]
  rw [if_pos this]
/-- drawing, from a slot -/
theorem ev_pick {ds : List Def} {k : Nat} (hf : fnd ds "_law_pick" = some d_law_pick) {ρ : PEnv} {s : Nat} {st : List D} (hs : getS ρ s = some (.own st)) (hst : Good st) {m : Int} (hm : 0 < m) (hm2 : m < 1073741824) :
    ∃ d st', ev (sigOf ds (k + 1)) (.call "_law_pick" [.slot s, .ex (.con (.int m))]) ρ = .ok (.int d, ρ.set s (some (.own st'))) ∧ Good st' ∧ 0 ≤ d ∧ d < m := by
  obtain ⟨d, st', outs, h1, h2, h3, h4, h5⟩ := pick_D (k := k) hf hst hm hm2
  refine ⟨d, st', ?_, h3, h4, h5⟩
  simp only [ev_callS, opnds_consS, opnd_slot, opnd_ex, hs, Out.bind_okS, ev_con, opnds_nilS, argS, Option.map_some, Out.of_someS, h1, slotsOf, List.nodup_cons, List.nodup_nil, List.not_mem_nil, not_false_eq_true, and_self, if_true, backA, h2, Slot.frz]
/-! ### the same -/
def d_law_same : Def := { nm := "_law_same", N := ["told", "due", "k"], np := 2, body := [
    .ite (.val (.ex (.prim (.cmp .Is) [.slot 1, .ex (.con .non)]))) [
    .ret (.prim (.cmp .Is) [.slot 0, .ex (.con .non)])] [],
    .ite (.val (.ex (.isi (.slot 1) .bool))) [
    .ret (.bop true [.isi (.slot 0) .bool, .prim (.cmp .Eq) [.slot 0, .slot 1]])] [],
    .ite (.val (.ex (.isi (.slot 1) .int))) [
    .ret (.bop true [.isi (.slot 0) .int, .not (.isi (.slot 0) .bool), .prim (.cmp .Eq) [.slot 0, .slot 1]])] [],
    .ite (.val (.ex (.isi (.slot 1) .str))) [
    .ret (.bop true [.isi (.slot 0) .str, .prim (.cmp .Eq) [.slot 0, .slot 1]])] [],
    .ite (.bop false [.bop true [.val (.ex (.isi (.slot 1) .list)), .not (.val (.ex (.isi (.slot 0) .list)))], .bop true [.val (.ex (.isi (.slot 1) .tuple)), .not (.val (.ex (.isi (.slot 0) .tuple)))]]) [
    .ret (.con (.bl false))] [],
    .ret (.bop true [.prim (.cmp .Eq) [.ex (.prim (.bi .len) [.slot 0]), .ex (.prim (.bi .len) [.slot 1])], .prim (.cmp .Eq) [.ex (.comp [2] (false, [2]) .rng [.prim (.bi .len) [.slot 1]] [.not (.val (.ex (.call "_law_same" [.ex (.prim .ix [.slot 0, .slot 2]), .ex (.prim .ix [.slot 1, .slot 2])])))] (.con (.int 1))), .ex (.dsp false [])]])] }

def Pl : Nat → D → Prop
  | 0, _ => False
  | _ + 1, .int _ => True
  | _ + 1, .bl _ => True
  | _ + 1, .non => True
  | _ + 1, .str _ => False
  | _ + 1, .obj _ _ _ => False
  | n + 1, .tup xs => xs.length < lim ∧ ∀ x ∈ xs, Pl n x
  | n + 1, .lst xs => xs.length < lim ∧ ∀ x ∈ xs, Pl n x
theorem eqF_bl (i j : Bool) : eqF (.bl i) (.bl j) = some (decide (i = j)) := by
  cases i <;> cases j <;> decide
theorem eqF_nil : eqF (.lst []) (.lst []) = some true := by decide
def sameC : E := .comp [2] (false, [2]) .rng [.prim (.bi .len) [.slot 1]] [.not (.val (.ex (.call "_law_same" [.ex (.prim .ix [.slot 0, .slot 2]), .ex (.prim .ix [.slot 1, .slot 2])])))] (.con (.int 1))
theorem same_seq {G : Sig} {d : D} {xs : List D} (hd : d = .tup xs ∨ d = .lst xs) (hl : xs.length < lim) (hx : ∀ x ∈ xs, callV G "_law_same" [x, x] = .ok (.dat (.bl true))) :
    ev G sameC [some (.dat d), some (.dat d), none] = .ok (.lst [], [some (.dat d), some (.dat d), none]) := by
  unfold sameC
  refine (ev_compF (ρ1 := [some (.dat d), some (.dat d), none]) (ds := [.int (xs.length : Int)]) (L := List.range xs.length) (fun k => .int (k : Int)) (fun _ => .int 1) (fun _ => false) ?_ (rng_nat (Nat.le_of_lt hl)) rfl (by rw [List.length_range]; exact hl) (fun j hj => ?_)).trans ?_
  · rcases hd with rfl | rfl <;> simp [opnds_nilS, opnds_consS, opnd_slot, opnd_ex, ev_var, ev_con, ev_prim, ev_dsp, ev_bop, ev_not, ev_ite, ev_isi, ev_callS, evs_nil, evs_cons, evC_nil, evC_cons, evB_one, evB_more, evT_bop, evT_not, evT_val, evo_var, evo_call', evo_dsp, evo_prim, evo_con, evo_bop, evo_not, evo_ite, evo_isi, getS_0, getS_s, rdAll, rdO, Slot.frz, primF, ixF, cmpF, truD, biF, binF, freshP, isOwn, isOwnL, eqF_int, addI, subI, argS, backA, slotsOf, isiF]
  · have hj : j < xs.length := List.mem_range.mp hj
    have e : atI xs (j : Int) = some xs[j] := atI_nat (List.getElem?_eq_getElem hj)
    obtain ⟨outs, hc⟩ := callV_D (hx _ (List.getElem_mem hj))
    refine ⟨[some (.dat d), some (.dat d), some (.dat (.int (j : Int)))], [some (.dat d), some (.dat d), some (.dat (.int (j : Int)))], rfl, ?_, fun _ => ⟨rfl, rfl⟩, fun h => by cases h⟩
    rcases hd with rfl | rfl <;> simp [opnds_nilS, opnds_consS, opnd_slot, opnd_ex, ev_var, ev_con, ev_prim, ev_dsp, ev_bop, ev_not, ev_ite, ev_isi, ev_callS, evs_nil, evs_cons, evC_nil, evC_cons, evB_one, evB_more, evT_bop, evT_not, evT_val, evo_var, evo_call', evo_dsp, evo_prim, evo_con, evo_bop, evo_not, evo_ite, evo_isi, getS_0, getS_s, rdAll, rdO, Slot.frz, primF, ixF, cmpF, truD, biF, binF, freshP, isOwn, isOwnL, eqF_int, addI, subI, argS, backA, slotsOf, isiF, e] <;> (simp only [List.map_cons, List.map_nil] at hc; simp [hc, Slot.frz, truD, rdO])
  · rw [List.filter_eq_nil_iff.mpr (fun _ _ h => by cases h)]; rfl
theorem same_body {G : Sig} {d : D} {n : Nat} (hp : Pl (n + 1) d) (h : ∀ xs, d = .tup xs ∨ d = .lst xs → ev G sameC [some (.dat d), some (.dat d), none] = .ok (.lst [], [some (.dat d), some (.dat d), none])) :
    WSs G d_law_same.body [some (.dat d), some (.dat d), none] fun fl _ => fl = .ret (.dat (.bl true)) := by
  unfold d_law_same
  have seq : ∀ xs, d = .tup xs ∨ d = .lst xs → WSs G d_law_same.body [some (.dat d), some (.dat d), none] fun fl _ => fl = .ret (.dat (.bl true)) := by
    intro xs hd
    have hc := h xs hd
    have f0 : WSs G d_law_same.body [some (.dat d), some (.dat d), none] fun fl _ => fl = .ret (.dat (.bl true)) := by
      unfold d_law_same
      refine ws_cons (ws_ite (t := false) (ρ1 := [some (.dat d), some (.dat d), none]) ?_ (fun h => by cases h) (fun _ => ws_nil ?_))
      · rcases hd with rfl | rfl <;> simp [opnds_nilS, opnds_consS, opnd_slot, opnd_ex, ev_var, ev_con, ev_prim, ev_dsp, ev_bop, ev_not, ev_ite, ev_isi, ev_callS, evs_nil, evs_cons, evC_nil, evC_cons, evB_one, evB_more, evT_bop, evT_not, evT_val, evo_var, evo_call', evo_dsp, evo_prim, evo_con, evo_bop, evo_not, evo_ite, evo_isi, getS_0, getS_s, rdAll, rdO, Slot.frz, primF, ixF, cmpF, truD, biF, binF, freshP, isOwn, isOwnL, eqF_int, addI, subI, argS, backA, slotsOf, isiF]
      refine ws_cons (ws_ite (t := false) (ρ1 := [some (.dat d), some (.dat d), none]) ?_ (fun h => by cases h) (fun _ => ws_nil ?_))
      · rcases hd with rfl | rfl <;> simp [opnds_nilS, opnds_consS, opnd_slot, opnd_ex, ev_var, ev_con, ev_prim, ev_dsp, ev_bop, ev_not, ev_ite, ev_isi, ev_callS, evs_nil, evs_cons, evC_nil, evC_cons, evB_one, evB_more, evT_bop, evT_not, evT_val, evo_var, evo_call', evo_dsp, evo_prim, evo_con, evo_bop, evo_not, evo_ite, evo_isi, getS_0, getS_s, rdAll, rdO, Slot.frz, primF, ixF, cmpF, truD, biF, binF, freshP, isOwn, isOwnL, eqF_int, addI, subI, argS, backA, slotsOf, isiF]
      refine ws_cons (ws_ite (t := false) (ρ1 := [some (.dat d), some (.dat d), none]) ?_ (fun h => by cases h) (fun _ => ws_nil ?_))
      · rcases hd with rfl | rfl <;> simp [opnds_nilS, opnds_consS, opnd_slot, opnd_ex, ev_var, ev_con, ev_prim, ev_dsp, ev_bop, ev_not, ev_ite, ev_isi, ev_callS, evs_nil, evs_cons, evC_nil, evC_cons, evB_one, evB_more, evT_bop, evT_not, evT_val, evo_var, evo_call', evo_dsp, evo_prim, evo_con, evo_bop, evo_not, evo_ite, evo_isi, getS_0, getS_s, rdAll, rdO, Slot.frz, primF, ixF, cmpF, truD, biF, binF, freshP, isOwn, isOwnL, eqF_int, addI, subI, argS, backA, slotsOf, isiF]
      refine ws_cons (ws_ite (t := false) (ρ1 := [some (.dat d), some (.dat d), none]) ?_ (fun h => by cases h) (fun _ => ws_nil ?_))
      · rcases hd with rfl | rfl <;> simp [opnds_nilS, opnds_consS, opnd_slot, opnd_ex, ev_var, ev_con, ev_prim, ev_dsp, ev_bop, ev_not, ev_ite, ev_isi, ev_callS, evs_nil, evs_cons, evC_nil, evC_cons, evB_one, evB_more, evT_bop, evT_not, evT_val, evo_var, evo_call', evo_dsp, evo_prim, evo_con, evo_bop, evo_not, evo_ite, evo_isi, getS_0, getS_s, rdAll, rdO, Slot.frz, primF, ixF, cmpF, truD, biF, binF, freshP, isOwn, isOwnL, eqF_int, addI, subI, argS, backA, slotsOf, isiF]
      refine ws_cons (ws_ite (t := false) (ρ1 := [some (.dat d), some (.dat d), none]) ?_ (fun h => by cases h) (fun _ => ws_nil ?_))
      · rcases hd with rfl | rfl <;> simp [opnds_nilS, opnds_consS, opnd_slot, opnd_ex, ev_var, ev_con, ev_prim, ev_dsp, ev_bop, ev_not, ev_ite, ev_isi, ev_callS, evs_nil, evs_cons, evC_nil, evC_cons, evB_one, evB_more, evT_bop, evT_not, evT_val, evo_var, evo_call', evo_dsp, evo_prim, evo_con, evo_bop, evo_not, evo_ite, evo_isi, getS_0, getS_s, rdAll, rdO, Slot.frz, primF, ixF, cmpF, truD, biF, binF, freshP, isOwn, isOwnL, eqF_int, addI, subI, argS, backA, slotsOf, isiF]
      refine ws_cons (ws_ret (d := .dat (.bl true)) (ρ1 := [some (.dat d), some (.dat d), none]) ?_ rfl)
      have e1 : ev G (.prim (.cmp .Eq) [.ex (.prim (.bi .len) [.slot 0]), .ex (.prim (.bi .len) [.slot 1])]) [some (.dat d), some (.dat d), none] = .ok (.bl true, [some (.dat d), some (.dat d), none]) := by
        rcases hd with rfl | rfl <;> simp [opnds_nilS, opnds_consS, opnd_slot, opnd_ex, ev_var, ev_con, ev_prim, ev_dsp, ev_bop, ev_not, ev_ite, ev_isi, ev_callS, evs_nil, evs_cons, evC_nil, evC_cons, evB_one, evB_more, evT_bop, evT_not, evT_val, evo_var, evo_call', evo_dsp, evo_prim, evo_con, evo_bop, evo_not, evo_ite, evo_isi, getS_0, getS_s, rdAll, rdO, Slot.frz, primF, ixF, cmpF, truD, biF, binF, freshP, isOwn, isOwnL, eqF_int, addI, subI, argS, backA, slotsOf, isiF]
      have e2 : ev G (.prim (.cmp .Eq) [.ex sameC, .ex (.dsp false [])]) [some (.dat d), some (.dat d), none] = .ok (.bl true, [some (.dat d), some (.dat d), none]) := by
        rw [ev_prim, opnds_consS, opnd_ex, hc]
        simp [opnds_nilS, opnds_consS, opnd_slot, opnd_ex, ev_var, ev_con, ev_prim, ev_dsp, ev_bop, ev_not, ev_ite, ev_isi, ev_callS, evs_nil, evs_cons, evC_nil, evC_cons, evB_one, evB_more, evT_bop, evT_not, evT_val, evo_var, evo_call', evo_dsp, evo_prim, evo_con, evo_bop, evo_not, evo_ite, evo_isi, getS_0, getS_s, rdAll, rdO, Slot.frz, primF, ixF, cmpF, truD, biF, binF, freshP, isOwn, isOwnL, eqF_int, addI, subI, argS, backA, slotsOf, isiF, eqF_nil]
      rw [evo_bop, evB_more, e1]
      show Out.bind (evB G true [.prim (.cmp .Eq) [.ex sameC, .ex (.dsp false [])]] [some (.dat d), some (.dat d), none]) _ = _
      rw [evB_one, e2]
      rfl
    exact f0
  cases d with
  | non => exact ⟨.ret (.dat (.bl true)), [some (.dat .non), some (.dat .non), none], by simp [exs, ex, opnds_nilS, opnds_consS, opnd_slot, opnd_ex, ev_var, ev_con, ev_prim, ev_dsp, ev_bop, ev_not, ev_ite, ev_isi, ev_callS, evs_nil, evs_cons, evC_nil, evC_cons, evB_one, evB_more, evT_bop, evT_not, evT_val, evo_var, evo_call', evo_dsp, evo_prim, evo_con, evo_bop, evo_not, evo_ite, evo_isi, getS_0, getS_s, rdAll, rdO, Slot.frz, primF, ixF, cmpF, truD, biF, binF, freshP, isOwn, isOwnL, eqF_int, addI, subI, argS, backA, slotsOf, isiF], rfl⟩
  | bl b => exact ⟨.ret (.dat (.bl true)), [some (.dat (.bl b)), some (.dat (.bl b)), none], by simp [exs, ex, opnds_nilS, opnds_consS, opnd_slot, opnd_ex, ev_var, ev_con, ev_prim, ev_dsp, ev_bop, ev_not, ev_ite, ev_isi, ev_callS, evs_nil, evs_cons, evC_nil, evC_cons, evB_one, evB_more, evT_bop, evT_not, evT_val, evo_var, evo_call', evo_dsp, evo_prim, evo_con, evo_bop, evo_not, evo_ite, evo_isi, getS_0, getS_s, rdAll, rdO, Slot.frz, primF, ixF, cmpF, truD, biF, binF, freshP, isOwn, isOwnL, eqF_int, addI, subI, argS, backA, slotsOf, isiF, eqF_bl], rfl⟩
  | int i => exact ⟨.ret (.dat (.bl true)), [some (.dat (.int i)), some (.dat (.int i)), none], by simp [exs, ex, opnds_nilS, opnds_consS, opnd_slot, opnd_ex, ev_var, ev_con, ev_prim, ev_dsp, ev_bop, ev_not, ev_ite, ev_isi, ev_callS, evs_nil, evs_cons, evC_nil, evC_cons, evB_one, evB_more, evT_bop, evT_not, evT_val, evo_var, evo_call', evo_dsp, evo_prim, evo_con, evo_bop, evo_not, evo_ite, evo_isi, getS_0, getS_s, rdAll, rdO, Slot.frz, primF, ixF, cmpF, truD, biF, binF, freshP, isOwn, isOwnL, eqF_int, addI, subI, argS, backA, slotsOf, isiF], rfl⟩
  | str x => exact (show False from hp).elim
  | obj c ns xs => exact (show False from hp).elim
  | tup xs => exact seq xs (.inl rfl)
  | lst xs => exact seq xs (.inr rfl)
theorem same_refl {ds : List Def} (hf : fnd ds "_law_same" = some d_law_same) : ∀ (n k : Nat) (d : D), n ≤ k → Pl n d → callV (sigOf ds k) "_law_same" [d, d] = .ok (.dat (.bl true)) := by
  intro n
  induction n with
  | zero => exact fun _ _ _ h => h.elim
  | succ n IH =>
    intro k d hk hp
    obtain ⟨k, rfl⟩ : ∃ k', k = k' + 1 := ⟨k - 1, by omega⟩
    obtain ⟨fl, ρ', h1, rfl⟩ := same_body (G := sigOf ds k) hp fun xs hd => by
      rcases hd with rfl | rfl
      · exact same_seq (.inl rfl) hp.1 fun x hx => IH k x (by omega) (hp.2 x hx)
      · exact same_seq (.inr rfl) hp.1 fun x hx => IH k x (by omega) (hp.2 x hx)
    exact callV_run hf ⟨rfl, by decide⟩ ⟨_, _, h1, rfl⟩
end Py

set_option Elab.async false
set_option linter.all false
set_option maxRecDepth 100000
set_option maxHeartbeats 2000000
/-! tables, and lists made by comprehensions -/
namespace Py
open PySem L2 Px
theorem set_none {ρ : PEnv} {v : Nat} (h : ρ.set v none = ρ) : getS ρ v = none := by
  unfold getS
  rw [← h, List.getD_eq_getElem?_getD, List.getElem?_set]
  split
  · split <;> rfl
  · rename_i c; exact absurd rfl c
theorem ev_cmp1 {α : Type} {G : Sig} {ρ : PEnv} {v : Nat} {ik : IK} {ies : List E} {elt : E} {ds : List D} {L : List α} (φ g : α → D) (h1 : evs G ies ρ = .ok (ds, ρ)) (h2 : itemsOf ρ ik ds = some (L.map φ)) (hw : ρ.set v none = ρ) (hb : ∀ x, sameB ik ρ (ρ.set v x) = true) (hl : L.length < lim)
    (step : ∀ x ∈ L, ev G elt (ρ.set v (some (.dat (φ x)))) = .ok (g x, ρ.set v (some (.dat (φ x))))) : ev G (.comp [v] (false, [v]) ik ies [] elt) ρ = .ok (.lst (L.map g), ρ) := by
  have gn := set_none hw
  have w1 : wipeP ρ [v] = ρ := hw
  refine (ev_compM φ g h1 h2 (by simp [gn, isOwn, isOwnL]) hl fun x hx => ⟨ρ.set v (some (.dat (φ x))), ρ.set v (some (.dat (φ x))), by rw [w1]; rfl, step x hx, hb _, ?_⟩).trans ?_
  · rw [w1]
    show (ρ.set v (some (Slot.dat (φ x)))).set v none = ρ
    rw [List.set_set, hw]
  · rw [w1]
    show Out.ok (D.lst (L.map g), ρ.set v (getS ρ v)) = _
    rw [gn, hw]
theorem ev_tupC {G : Sig} {ρ ρ' : PEnv} {e : E} {xs : List D} (h : ev G e ρ = .ok (.lst xs, ρ')) : ev G (.prim (.bi .tuple) [.ex e]) ρ = .ok (.tup xs, ρ') := by
  rw [ev_prim, opnds_consS, opnd_ex, h]
  simp [opnds_nilS, rdAll, rdO, primF, biF]
theorem intsOf_map {α : Type} (f : α → Int) : ∀ L : List α, intsOf (L.map fun x => D.int (f x)) = some (L.map f)
  | [] => rfl
  | x :: xs => by
    show (intsOf (xs.map fun x => D.int (f x))).map (f x :: ·) = _
    rw [intsOf_map f xs]; rfl
theorem ev_sumC {α : Type} {G : Sig} {ρ ρ' : PEnv} {e : E} {L : List α} {f : α → Int} (h : ev G e ρ = .ok (.lst (L.map fun x => .int (f x)), ρ')) : ev G (.prim (.bi .sum) [.ex e]) ρ = .ok (.int (L.map f).sum, ρ') := by
  rw [ev_prim, opnds_consS, opnd_ex, h]
  simp [opnds_nilS, rdAll, rdO, primF, biF, intsOf_map]
theorem blsOf_map {α : Type} (f : α → Bool) : ∀ L : List α, blsOf (L.map fun x => D.bl (f x)) = some (L.map f)
  | [] => rfl
  | x :: xs => by
    show (blsOf (xs.map fun x => D.bl (f x))).map (f x :: ·) = _
    rw [blsOf_map f xs]; rfl
theorem ev_allC {α : Type} {G : Sig} {ρ ρ' : PEnv} {e : E} {L : List α} {f : α → Bool} (h : ev G e ρ = .ok (.lst (L.map fun x => .bl (f x)), ρ')) : ev G (.prim (.bi .all) [.ex e]) ρ = .ok (.bl (L.all f), ρ') := by
  rw [ev_prim, opnds_consS, opnd_ex, h]
  simp [opnds_nilS, rdAll, rdO, primF, biF, blsOf_map, List.all_map]
/-! ### tables -/
def row (m : Nat) (f : Nat → Nat → Int) (i : Nat) : D := .tup ((List.range m).map fun j => .int (f i j))
def enc (n m : Nat) (f : Nat → Nat → Int) : D := .tup ((List.range n).map (row m f))
theorem at_range {φ : Nat → D} {n i : Nat} (h : i < n) : atI ((List.range n).map φ) (i : Int) = some (φ i) := atI_nat (by rw [List.getElem?_map, List.getElem?_range h]; rfl)
theorem ix_enc {n m i : Nat} {f : Nat → Nat → Int} (h : i < n) : ixF (enc n m f) (.int (i : Int)) = some (row m f i) := at_range h
theorem ix_row {m i j : Nat} {f : Nat → Nat → Int} (h : j < m) : ixF (row m f i) (.int (j : Int)) = some (.int (f i j)) := at_range h
theorem enc_congr {n m : Nat} {f g : Nat → Nat → Int} (h : ∀ i, i < n → ∀ j, j < m → f i j = g i j) : enc n m f = enc n m g := by
  unfold enc row
  congr 1
  refine List.map_congr_left fun i hi => ?_
  congr 1
  refine List.map_congr_left fun j hj => ?_
  rw [h i (List.mem_range.mp hi) j (List.mem_range.mp hj)]
theorem pl_row {m i : Nat} {f : Nat → Nat → Int} (h : m < lim) : Pl 2 (row m f i) := by
  refine ⟨by simpa using h, fun x hx => ?_⟩
  obtain ⟨j, _, rfl⟩ := List.mem_map.mp hx
  trivial
theorem pl_enc {n m : Nat} {f : Nat → Nat → Int} (h : n < lim) (h' : m < lim) : Pl 3 (enc n m f) := by
  refine ⟨by simpa using h, fun x hx => ?_⟩
  obtain ⟨j, _, rfl⟩ := List.mem_map.mp hx
  exact pl_row h'
/-- a table made by two comprehensions over numbers -/
theorem ev_tab {G : Sig} {ρ : PEnv} {vi vj : Nat} {ei ej elt : E} {n m : Nat} (f : Nat → Nat → Int) (hn : n < lim) (hm : m < lim) (hwi : ρ.set vi none = ρ) (hwj : ∀ x, (ρ.set vi x).set vj none = ρ.set vi x)
    (hei : ev G ei ρ = .ok (.int n, ρ)) (hej : ∀ i, i < n → ev G ej (ρ.set vi (some (.dat (.int (i : Int))))) = .ok (.int m, ρ.set vi (some (.dat (.int (i : Int))))))
    (helt : ∀ i, i < n → ∀ j, j < m → ev G elt ((ρ.set vi (some (.dat (.int (i : Int))))).set vj (some (.dat (.int (j : Int))))) = .ok (.int (f i j), (ρ.set vi (some (.dat (.int (i : Int))))).set vj (some (.dat (.int (j : Int)))))) :
    ev G (.prim (.bi .tuple) [.ex (.comp [vi] (false, [vi]) .rng [ei] [] (.prim (.bi .tuple) [.ex (.comp [vj] (false, [vj]) .rng [ej] [] elt)]))]) ρ = .ok (enc n m f, ρ) := by
  refine ev_tupC (ev_cmp1 (L := List.range n) (fun i => .int (i : Int)) (row m f) (by rw [evs_cons, hei]; simp [evs_nil]) (rng_nat (Nat.le_of_lt hn)) hwi (fun _ => rfl) (by simpa using hn) fun i hi => ?_)
  have hi := List.mem_range.mp hi
  refine ev_tupC (ev_cmp1 (L := List.range m) (fun j => .int (j : Int)) (fun j => .int (f i j)) (by rw [evs_cons, hej i hi]; simp [evs_nil]) (rng_nat (Nat.le_of_lt hm)) (hwj _) (fun _ => rfl) (by simpa using hm) fun j hj => helt i hi j (List.mem_range.mp hj))
/-- a table made of a table's rows -/
theorem ev_rows {G : Sig} {ρ : PEnv} {vi vj : Nat} {ei elt : E} {n m : Nat} {g : Nat → Nat → Int} (f : Nat → Nat → Int) (hn : n < lim) (hm : m < lim) (hwi : ρ.set vi none = ρ) (hwj : ∀ x, (ρ.set vi x).set vj none = ρ.set vi x)
    (hei : ev G ei ρ = .ok (enc n m g, ρ)) (hr : ∀ x, ev G (.var vi) (ρ.set vi (some (.dat x))) = .ok (x, ρ.set vi (some (.dat x))))
    (helt : ∀ i, i < n → ∀ j, j < m → ev G elt ((ρ.set vi (some (.dat (row m g i)))).set vj (some (.dat (.int (g i j))))) = .ok (.int (f i j), (ρ.set vi (some (.dat (row m g i)))).set vj (some (.dat (.int (g i j)))))) :
    ev G (.prim (.bi .tuple) [.ex (.comp [vi] (false, [vi]) .seq [ei] [] (.prim (.bi .tuple) [.ex (.comp [vj] (false, [vj]) .seq [.var vi] [] elt)]))]) ρ = .ok (enc n m f, ρ) := by
  refine ev_tupC (ev_cmp1 (L := List.range n) (row m g) (row m f) (by rw [evs_cons, hei]; simp [evs_nil]; rfl) rfl hwi (fun _ => rfl) (by simpa using hn) fun i hi => ?_)
  have hi := List.mem_range.mp hi
  refine ev_tupC (ev_cmp1 (L := List.range m) (fun j => .int (g i j)) (fun j => .int (f i j)) (by rw [evs_cons, hr]; simp [evs_nil]; rfl) rfl (hwj _) (fun _ => rfl) (by simpa using hm) fun j hj => helt i hi j (List.mem_range.mp hj))
end Py

set_option Elab.async false
set_option linter.all false
set_option maxRecDepth 100000
set_option maxHeartbeats 2000000
/-! equality of data -/
namespace Py
open PySem L2 Px
theorem pyAll_ok {n : Nat} : ∀ xs : List D, (∀ x ∈ xs, PyData.canLay0 x.py = true ∧ PyData.depth x.py ≤ n) → PyData.canLayAll0 (D.py.pyAll xs) = true ∧ PyData.depthAll (D.py.pyAll xs) ≤ n
  | [], _ => ⟨rfl, Nat.zero_le _⟩
  | x :: xs, h => by
    obtain ⟨a, b⟩ := h x (List.mem_cons_self ..)
    obtain ⟨c, d⟩ := pyAll_ok xs fun y hy => h y (List.mem_cons_of_mem _ hy)
    refine ⟨?_, ?_⟩
    · show (PyData.canLay0 x.py && PyData.canLayAll0 (D.py.pyAll xs)) = true
      rw [a, c]; rfl
    · show max (PyData.depth x.py) (PyData.depthAll (D.py.pyAll xs)) ≤ n
      omega
theorem py_ok : ∀ (n : Nat) (d : D), Pl n d → PyData.canLay0 d.py = true ∧ PyData.depth d.py ≤ n := by
  intro n
  induction n with
  | zero => exact fun _ h => h.elim
  | succ n ih =>
    intro d h
    cases d with
    | non => exact ⟨rfl, Nat.zero_le _⟩
    | bl b => exact ⟨rfl, Nat.zero_le _⟩
    | int i => exact ⟨rfl, Nat.zero_le _⟩
    | str x => exact (show False from h).elim
    | obj c ns xs => exact (show False from h).elim
    | tup xs =>
      have h : xs.length < lim ∧ ∀ x ∈ xs, Pl n x := h
      obtain ⟨a, b⟩ := pyAll_ok xs fun x hx => ih x (h.2 x hx)
      exact ⟨a, Nat.succ_le_succ b⟩
    | lst xs =>
      have h : xs.length < lim ∧ ∀ x ∈ xs, Pl n x := h
      obtain ⟨a, b⟩ := pyAll_ok xs fun x hx => ih x (h.2 x hx)
      exact ⟨a, Nat.succ_le_succ b⟩
theorem shaped_ok {n : Nat} {d : D} (h : Pl n d) (hn : n ≤ 64) : SeqAt.shaped d.py = true := by
  obtain ⟨a, b⟩ := py_ok n d h
  unfold SeqAt.shaped
  rw [a, Bool.true_and]
  exact decide_eq_true (by omega)
theorem eqvAll_refl : ∀ xs : List D, (∀ x ∈ xs, PyData.eqv x.py x.py = true) → PyData.eqvAll (D.py.pyAll xs) (D.py.pyAll xs) = true
  | [], _ => rfl
  | x :: xs, h => by
    show (PyData.eqv x.py x.py && PyData.eqvAll (D.py.pyAll xs) (D.py.pyAll xs)) = true
    rw [h x (List.mem_cons_self ..), eqvAll_refl xs fun y hy => h y (List.mem_cons_of_mem _ hy)]; rfl
theorem eqv_refl : ∀ (n : Nat) (d : D), Pl n d → PyData.eqv d.py d.py = true := by
  intro n
  induction n with
  | zero => exact fun _ h => h.elim
  | succ n ih =>
    intro d h
    cases d with
    | non => rfl
    | bl b => cases b <;> rfl
    | int i => exact (show (i == i) = true by simp)
    | str x => exact (show False from h).elim
    | obj c ns xs => exact (show False from h).elim
    | tup xs => exact eqvAll_refl xs fun x hx => ih x ((show xs.length < lim ∧ ∀ x ∈ xs, Pl n x from h).2 x hx)
    | lst xs => exact eqvAll_refl xs fun x hx => ih x ((show xs.length < lim ∧ ∀ x ∈ xs, Pl n x from h).2 x hx)
theorem eqF_refl {n : Nat} {d : D} (h : Pl n d) (hn : n ≤ 64) : eqF d d = some true := by
  unfold eqF
  rw [if_pos ⟨shaped_ok h hn, shaped_ok h hn⟩, eqv_refl n d h]
/-- tables: equal as lists -/
theorem eqvAll_ints {α : Type} (f g : α → Int) : ∀ L : List α, PyData.eqvAll (D.py.pyAll (L.map fun x => D.int (f x))) (D.py.pyAll (L.map fun x => D.int (g x))) = L.all fun x => decide (f x = g x)
  | [] => rfl
  | x :: xs => by
    show ((f x == g x) && PyData.eqvAll (D.py.pyAll (xs.map fun x => D.int (f x))) (D.py.pyAll (xs.map fun x => D.int (g x)))) = _
    rw [eqvAll_ints f g xs, List.all_cons]; rfl
theorem eqvAll_rows (m : Nat) (f g : Nat → Nat → Int) : ∀ L : List Nat, PyData.eqvAll (D.py.pyAll (L.map (row m f))) (D.py.pyAll (L.map (row m g))) = L.all fun i => (List.range m).all fun j => decide (f i j = g i j)
  | [] => rfl
  | x :: xs => by
    show (PyData.eqvAll (D.py.pyAll ((List.range m).map fun j => D.int (f x j))) (D.py.pyAll ((List.range m).map fun j => D.int (g x j))) && PyData.eqvAll (D.py.pyAll (xs.map (row m f))) (D.py.pyAll (xs.map (row m g)))) = _
    rw [eqvAll_rows m f g xs, eqvAll_ints, List.all_cons]
theorem eqF_enc {n m : Nat} {f g : Nat → Nat → Int} (hn : n < lim) (hm : m < lim) : eqF (enc n m f) (enc n m g) = some ((List.range n).all fun i => (List.range m).all fun j => decide (f i j = g i j)) := by
  unfold eqF
  rw [if_pos ⟨shaped_ok (pl_enc hn hm) (by decide), shaped_ok (pl_enc hn hm) (by decide)⟩]
  congr 1
  exact eqvAll_rows m f g _
end Py

set_option Elab.async false
set_option linter.all false
set_option maxRecDepth 100000
set_option maxHeartbeats 2000000
/-! pure expressions: an evaluator that leaves the frame as it is -/
namespace Py
open PySem L2 Px
def callP (G : Sig) (f : Str) (ds : List D) : Option D := match callV G f ds with
  | .ok s => some s.frz
  | .bad => none
theorem callP_dat {G : Sig} {f : Str} {ds : List D} {d : D} (h : callV G f ds = .ok (.dat d)) : callP G f ds = some d := by unfold callP; rw [h]; rfl
theorem callP_own {G : Sig} {f : Str} {ds : List D} {xs : List D} (h : callV G f ds = .ok (.own xs)) : callP G f ds = some (.lst xs) := by unfold callP; rw [h]; rfl
def _root_.Px.Slot.rd : Px.Slot → Option D
  | .dat d => some d
  | .mo (.lst xs) => some (.lst xs)
  | _ => none
/-- o.m(..), C(..), == by the class's own, as values -/
def mthP (G : Sig) (d : D) (m : Str) (ds : List D) : Option D := match methR G d m ds with
  | .ok s => some s.frz
  | .bad => none
def mkP (G : Sig) (c : Str) (ds : List D) : Option D := match makeR G c ds with
  | .ok d => some d
  | .bad => none
def oeqP (G : Sig) (a b : D) : Option Bool := match oeqR G a b with
  | .ok d => some d
  | .bad => none
def iscP (G : Sig) (c : Str) : D → Option D
  | .obj c' _ _ => if c' = c ∧ (G.ini c).isSome = true then some (.bl true) else none
  | _ => none
/-- items that pass, turned to others -/
def compQ {α β : Type} (c : α → Option Bool) (e : α → Option β) : List α → Option (List β)
  | [] => some []
  | x :: xs => (c x).bind fun t => match t with
    | true => (e x).bind fun d => (compQ c e xs).map (d :: ·)
    | false => compQ c e xs
/-- items turned to lists, one after the other -/
def compB {α β : Type} (f : α → Option (List β)) : List α → Option (List β)
  | [] => some []
  | x :: xs => (f x).bind fun a => (compB f xs).map (a ++ ·)
def ckB (vs : List Nat) (tg : Bool × List Nat) (ik : IK) : Bool := (tg.2.all fun i => vs.contains i) && (match ik with | .brw i => !vs.contains i | _ => true)
mutual
def pv (G : Sig) : E → PEnv → Option D
  | .var i, ρ => match getS ρ i with
    | some (.dat d) => some d
    | _ => none
  | .con d, _ => some d
  | .prim p as, ρ => (pas G as ρ).bind (primF p)
  | .dsp b es, ρ => (pvs G es ρ).bind fun ds => if ds.length ≤ lim then some (if b then .tup ds else .lst ds) else none
  | .bop c es, ρ => pvB G c es ρ
  | .not a, ρ => (pv G a ρ).bind fun d => match d with
    | .bl b => some (.bl (!b))
    | _ => none
  | .ite c a b, ρ => (pvT G c ρ).bind fun t => match t with
    | true => pv G a ρ
    | false => pv G b ρ
  | .call f as, ρ => (pxs G as ρ).bind fun ds => callP G f ds
  | .comp vs tg ik ies conds elt, ρ => (pvs G ies ρ).bind fun q => (itemsOf ρ ik q).bind fun items =>
      if ckB vs tg ik = true ∧ (vs.all fun v => !isOwn (getS ρ v)) = true then
        (compQ (fun x => (setT (wipeP ρ vs) tg x).bind fun ρ2 => pvC G true conds ρ2) (fun x => (setT (wipeP ρ vs) tg x).bind fun ρ2 => pv G elt ρ2) items).bind fun ys => if ys.length < lim then some (.lst ys) else none
      else none
  | .comp2 vs tg ik ies conds vs1 tg1 ik1 ies1 conds1 elt, ρ => (pvs G ies ρ).bind fun q => (itemsOf ρ ik q).bind fun items =>
      if ckB vs tg ik = true ∧ ckB vs1 tg1 ik1 = true ∧ (vs1.all fun i => vs.contains i) = true ∧ isBrw ik = false ∧ isBrw ik1 = false ∧ (vs.all fun v => !isOwn (getS ρ v)) = true then
        (compB (fun x => (setT (wipeP ρ vs) tg x).bind fun ρ2 => (pvC G true conds ρ2).bind fun t => match t with
          | true => (pvs G ies1 ρ2).bind fun q1 => (itemsOf ρ2 ik1 q1).bind fun items1 => compQ (fun y => (setT (wipeP ρ2 vs1) tg1 y).bind fun ρ4 => pvC G true conds1 ρ4) (fun y => (setT (wipeP ρ2 vs1) tg1 y).bind fun ρ4 => pv G elt ρ4) items1
          | false => some []) items).bind fun ys => if ys.length < lim then some (.lst ys) else none
      else none
  | .pop _ _, _ => none
  | .isi a ty, ρ => (pa G a ρ).bind fun d => if d.isObj = true then none else some (.bl (isiF d ty))
  | .make c es, ρ => (pvs G es ρ).bind fun ds => mkP G c ds
  | .meth o m es, ρ => (pv G o ρ).bind fun d => (pvs G es ρ).bind fun ds => mthP G d m ds
  | .oeq neg a b, ρ => (pv G a ρ).bind fun x => (pv G b ρ).bind fun y => (oeqP G x y).bind fun t => some (.bl (t != neg))
  | .isc a c, ρ => (pv G a ρ).bind fun x => iscP G c x
  | .chn o p a b c, ρ => (pv G a ρ).bind fun x => (pv G b ρ).bind fun y => (cmpF o x y).bind fun t => if t then (pv G c ρ).bind fun z => (cmpF p y z).map .bl else some (.bl false)
def pvT (G : Sig) : T → PEnv → Option Bool
  | .bop c ts, ρ => pvC G c ts ρ
  | .not a, ρ => (pvT G a ρ).map (!·)
  | .val a, ρ => (pa G a ρ).bind truD
def pa (G : Sig) : Ar → PEnv → Option D
  | .slot i, ρ => rdO ρ (.slot i)
  | .ex e, ρ => pv G e ρ
def pas (G : Sig) : List Ar → PEnv → Option (List D)
  | [], _ => some []
  | a :: as, ρ => (pa G a ρ).bind fun d => (pas G as ρ).map (d :: ·)
/-- arguments of a call: no lists of the frame's own -/
def pxs (G : Sig) : List Ar → PEnv → Option (List D)
  | [], _ => some []
  | .slot _ :: _, _ => none
  | .ex e :: as, ρ => (pv G e ρ).bind fun d => (pxs G as ρ).map (d :: ·)
def pvs (G : Sig) : List E → PEnv → Option (List D)
  | [], _ => some []
  | e :: es, ρ => (pv G e ρ).bind fun d => (pvs G es ρ).map (d :: ·)
def pvC (G : Sig) (c : Bool) : List T → PEnv → Option Bool
  | [], _ => some c
  | t :: ts, ρ => (pvT G t ρ).bind fun b => if b = c then pvC G c ts ρ else some b
def pvB (G : Sig) (c : Bool) : List E → PEnv → Option D
  | [], _ => none
  | e :: es, ρ => (pv G e ρ).bind fun d => match es with
    | [] => some d
    | _ :: _ => match d with
      | .bl b => if b = c then pvB G c es ρ else some (.bl b)
      | _ => none
end
/-! it is right -/
theorem bindS {α β : Type} {x : Option α} {f : α → Option β} {b : β} (h : x.bind f = some b) : ∃ a, x = some a ∧ f a = some b := by
  cases x with
  | none => cases h
  | some a => exact ⟨a, rfl, h⟩
theorem mapS {α β : Type} {x : Option α} {f : α → β} {b : β} (h : x.map f = some b) : ∃ a, x = some a ∧ f a = b := by
  cases x with
  | none => cases h
  | some a => exact ⟨a, rfl, Option.some.inj h⟩
theorem wipe_at (ρ : PEnv) : ∀ (vs : List Nat) (j : Nat), (wipeP ρ vs)[j]? = if j ∈ vs ∧ j < ρ.length then some none else ρ[j]?
  | [], j => by simp [wipeP]
  | v :: vs, j => by
    have hl : (wipeP ρ vs).length = ρ.length := by
      clear j
      induction vs with
      | nil => rfl
      | cons w ws ih => simp [wipeP, ih]
    show ((wipeP ρ vs).set v none)[j]? = _
    rw [List.getElem?_set, wipe_at ρ vs j, hl]
    by_cases c : v = j
    · subst c
      simp only [if_true, List.mem_cons, true_or, true_and]
      split
      · rfl
      · rename_i c2; rw [List.getElem?_eq_none (by omega)]
    · have c' : ¬ j = v := fun h => c h.symm
      simp only [if_neg c, List.mem_cons, c', false_or]
theorem wipe_len (ρ : PEnv) (vs : List Nat) : (wipeP ρ vs).length = ρ.length := by
  induction vs with
  | nil => rfl
  | cons w ws ih => simp [wipeP, ih]
theorem back_at (ρ0 ρ : PEnv) : ∀ (vs : List Nat) (j : Nat), (backP ρ0 ρ vs)[j]? = if j ∈ vs ∧ j < ρ.length then some (getS ρ0 j) else ρ[j]?
  | [], j => by simp [backP]
  | v :: vs, j => by
    have hl : (backP ρ0 ρ vs).length = ρ.length := by
      clear j
      induction vs with
      | nil => rfl
      | cons w ws ih => simp [backP, ih]
    show ((backP ρ0 ρ vs).set v (getS ρ0 v))[j]? = _
    rw [List.getElem?_set, back_at ρ0 ρ vs j, hl]
    by_cases c : v = j
    · subst c
      simp only [if_true, List.mem_cons, true_or, true_and]
      split
      · rfl
      · rename_i c2; rw [List.getElem?_eq_none (by omega)]
    · have c' : ¬ j = v := fun h => c h.symm
      simp only [if_neg c, List.mem_cons, c', false_or]
theorem back_wipe (ρ : PEnv) (vs : List Nat) : backP ρ (wipeP ρ vs) vs = ρ := by
  refine List.ext_getElem? fun j => ?_
  rw [back_at, wipe_at, wipe_len]
  by_cases c : j ∈ vs ∧ j < ρ.length
  · rw [if_pos c]
    unfold getS
    rw [List.getD_eq_getElem?_getD, List.getElem?_eq_getElem c.2]; rfl
  · rw [if_neg c, if_neg c]
theorem go_wipe {vs : List Nat} : ∀ (is : List Nat) (ds : List D) (ρ ρ1 : PEnv), (∀ i ∈ is, i ∈ vs) → (∀ j, j ∉ vs → ρ[j]? = ρ1[j]?) → ρ.length = ρ1.length → (∀ j, j ∉ vs → (setT.go ρ is ds)[j]? = ρ1[j]?) ∧ (setT.go ρ is ds).length = ρ1.length
  | [], _, ρ, ρ1, _, h, hl => ⟨h, hl⟩
  | i :: is, [], ρ, ρ1, _, h, hl => ⟨h, hl⟩
  | i :: is, d :: ds, ρ, ρ1, hv, h, hl => by
    refine go_wipe is ds (ρ.set i (some (.dat d))) ρ1 (fun j hj => hv j (List.mem_cons_of_mem _ hj)) (fun j hj => ?_) (by simp [hl])
    have ne : ¬ i = j := fun c => hj (by subst c; exact hv _ (List.mem_cons_self ..))
    rw [List.getElem?_set, if_neg ne]
    exact h j hj
theorem setT_keep {vs : List Nat} {tg : Bool × List Nat} {x : D} {ρ ρ2 : PEnv} (h : setT ρ tg x = some ρ2) (hv : ∀ i ∈ tg.2, i ∈ vs) : (∀ j, j ∉ vs → ρ2[j]? = ρ[j]?) ∧ ρ2.length = ρ.length := by
  obtain ⟨b, is⟩ := tg
  cases b with
  | false =>
    match is, hv, h with
    | [i], hv, h =>
      cases h
      refine ⟨fun j hj => ?_, by simp⟩
      have ne : ¬ i = j := fun c => hj (by subst c; exact hv _ (List.mem_cons_self ..))
      rw [List.getElem?_set, if_neg ne]
  | true =>
    cases x with
    | tup ds =>
      have h : (if is.length = ds.length then some (setT.go ρ is ds) else none) = some ρ2 := h
      split at h
      · cases h
        exact go_wipe is ds ρ ρ hv (fun _ _ => rfl) rfl
      · cases h
    | _ => cases h
theorem wipe_keep {vs : List Nat} {ρ ρ2 : PEnv} (h : ∀ j, j ∉ vs → ρ2[j]? = ρ[j]?) (hl : ρ2.length = ρ.length) : wipeP ρ2 vs = wipeP ρ vs := by
  refine List.ext_getElem? fun j => ?_
  rw [wipe_at, wipe_at, hl]
  by_cases c : j ∈ vs
  · by_cases c2 : j < ρ.length
    · rw [if_pos ⟨c, c2⟩, if_pos ⟨c, c2⟩]
    · rw [if_neg fun h => c2 h.2, if_neg fun h => c2 h.2, List.getElem?_eq_none (by omega), List.getElem?_eq_none (by omega)]
  · rw [if_neg fun h => c h.1, if_neg fun h => c h.1, h j c]
theorem opnds_all_slot (as : List Ar) : True := trivial
/-- an operand's opd that stands for d -/
theorem callR_vals' {G : Sig} {f : Str} {o : PEnv → Out (List Opd × PEnv)} {ρ : PEnv} {ds : List D} {r : D} (h1 : o ρ = .ok (ds.map .val, ρ)) (h2 : callP G f ds = some r) : ∃ s : Slot, s.frz = r ∧ callR (G f) o ρ = .ok (s, ρ) := by
  unfold callP at h2
  cases h : callV G f ds with
  | bad => rw [h] at h2; cases h2
  | ok s => rw [h] at h2; cases h2; exact ⟨s, rfl, callR_vals h1 h⟩
theorem compL_Q {f : D → PEnv → Out (List D × PEnv)} {ρ : PEnv} {c : D → Option Bool} {e : D → Option D} (h : ∀ x t, c x = some t → (t = true → ∀ d, e x = some d → f x ρ = .ok ([d], ρ)) ∧ (t = false → f x ρ = .ok ([], ρ))) : ∀ {L : List D} {ys : List D}, compQ c e L = some ys → compL f L ρ = .ok (ys, ρ)
  | [], ys, h0 => by cases h0; rfl
  | x :: xs, ys, h0 => by
    unfold compQ at h0
    obtain ⟨t, h1, h2⟩ := bindS h0
    obtain ⟨a1, a2⟩ := h x t h1
    show (f x ρ).bind _ = _
    cases t with
    | true =>
      obtain ⟨d, h3, h4⟩ := bindS h2
      obtain ⟨zs, h5, h6⟩ := mapS h4
      rw [a1 rfl d h3, Out.bind_okS]
      show (compL f xs ρ).bind _ = _
      rw [compL_Q h h5, Out.bind_okS, ← h6]; rfl
    | false =>
      rw [a2 rfl, Out.bind_okS]
      show (compL f xs ρ).bind _ = _
      rw [compL_Q h h2, Out.bind_okS]; rfl
theorem compL_B {f : D → PEnv → Out (List D × PEnv)} {ρ : PEnv} {g : D → Option (List D)} (h : ∀ x ys, g x = some ys → f x ρ = .ok (ys, ρ)) : ∀ {L : List D} {ys : List D}, compB g L = some ys → compL f L ρ = .ok (ys, ρ)
  | [], ys, h0 => by cases h0; rfl
  | x :: xs, ys, h0 => by
    unfold compB at h0
    obtain ⟨a, h1, h2⟩ := bindS h0
    obtain ⟨b, h3, h4⟩ := mapS h2
    show (f x ρ).bind _ = _
    rw [h x a h1, Out.bind_okS]
    show (compL f xs ρ).bind _ = _
    rw [compL_B h h3, Out.bind_okS, ← h4]
theorem wipe_wipe {vs vs1 : List Nat} (h : ∀ i ∈ vs1, i ∈ vs) (ρ : PEnv) : wipeP (wipeP ρ vs1) vs = wipeP ρ vs := by
  refine wipe_keep (fun j hj => ?_) (wipe_len ρ vs1)
  rw [wipe_at, if_neg fun c => hj (h j c.1)]
mutual
theorem pv_ok (G : Sig) : ∀ (e : E) (ρ : PEnv) (d : D), pv G e ρ = some d → ev G e ρ = .ok (d, ρ)
  | .var i, ρ, d, h => by
    unfold pv at h
    unfold ev
    cases hg : getS ρ i with
    | none => rw [hg] at h; cases h
    | some s =>
      rw [hg] at h
      cases s with
      | dat x => cases h; rfl
      | mo xs => cases h
  | .con c, ρ, d, h => by unfold pv at h; cases h; unfold ev; rfl
  | .prim p as, ρ, d, h => by
    unfold pv at h
    obtain ⟨ds, h1, h2⟩ := bindS h
    obtain ⟨os, h3, h4⟩ := pas_ok G as ρ ds h1
    unfold ev
    rw [h3, Out.bind_okS, h4, Out.of_someS, Out.bind_okS, h2, Out.of_someS, Out.bind_okS]
  | .dsp b es, ρ, d, h => by
    unfold pv at h
    obtain ⟨ds, h1, h2⟩ := bindS h
    unfold ev
    rw [pvs_ok G es ρ ds h1, Out.bind_okS]
    split at h2
    · rename_i c; cases h2; exact if_pos c
    · cases h2
  | .bop c es, ρ, d, h => by
    unfold pv at h
    unfold ev
    exact pvB_ok G c es ρ d h
  | .not a, ρ, d, h => by
    unfold pv at h
    obtain ⟨x, h1, h2⟩ := bindS h
    unfold ev
    rw [pv_ok G a ρ x h1, Out.bind_okS]
    cases x with
    | bl b => cases h2; rfl
    | _ => cases h2
  | .ite c a b, ρ, d, h => by
    unfold pv at h
    obtain ⟨t, h1, h2⟩ := bindS h
    unfold ev
    rw [pvT_ok G c ρ t h1, Out.bind_okS]
    cases t with
    | true => exact pv_ok G a ρ d h2
    | false => exact pv_ok G b ρ d h2
  | .call f as, ρ, d, h => by
    unfold pv at h
    obtain ⟨ds, h1, h2⟩ := bindS h
    unfold ev
    obtain ⟨s, e1, e2⟩ := callR_vals' (G := G) (f := f) (o := fun ρ => opnds G as ρ) (ρ := ρ) (pxs_ok G as ρ ds h1) h2
    rw [e2, Out.bind_okS, e1]
  | .comp vs tg ik ies conds elt, ρ, d, h => by
    unfold pv at h
    obtain ⟨q, h1, h2⟩ := bindS h
    obtain ⟨items, h3, h4⟩ := bindS h2
    split at h4
    · rename_i hc
      obtain ⟨ck, own⟩ := hc
      obtain ⟨ys, h5, h6⟩ := bindS h4
      have ckT : ∀ i ∈ tg.2, i ∈ vs := by
        intro i hi
        have := (Bool.and_eq_true _ _ ▸ ck : _ ∧ _).1
        simpa using List.all_eq_true.mp this i hi
      have ckS : ∀ ρ2 : PEnv, (∀ j, j ∉ vs → ρ2[j]? = (wipeP ρ vs)[j]?) → sameB ik ρ ρ2 = true := by
        intro ρ2 hk
        have := (Bool.and_eq_true _ _ ▸ ck : _ ∧ _).2
        cases ik with
        | rng => rfl
        | seq => rfl
        | rev => rfl
        | dk => rfl
        | brw i =>
          have hi : i ∉ vs := by simpa using this
          unfold sameB
          refine decide_eq_true ?_
          unfold getS
          rw [List.getD_eq_getElem?_getD, List.getD_eq_getElem?_getD, hk i hi, wipe_at, if_neg fun c => hi c.1]
      unfold ev
      rw [pvs_ok G ies ρ q h1, Out.bind_okS, h3, Out.of_someS, Out.bind_okS, if_pos own]
      rw [compL_Q (fun x t hx => ?_) h5, Out.bind_okS]
      · split at h6
        · rename_i c
          cases h6
          rw [if_pos c, back_wipe]
        · cases h6
      · obtain ⟨ρ2, b1, b2⟩ := bindS hx
        obtain ⟨k1, k2⟩ := setT_keep b1 ckT
        have w2 : wipeP ρ2 vs = wipeP ρ vs := by
          rw [wipe_keep k1 k2]
          refine wipe_keep (fun j hj => ?_) (wipe_len ρ vs)
          rw [wipe_at, if_neg fun c => hj c.1]
        rw [b1, Out.of_someS, Out.bind_okS, pvC_ok G true conds ρ2 t b2, Out.bind_okS]
        constructor
        · rintro rfl dd hd
          rw [Option.bind_some] at hd
          show (ev G elt ρ2).bind _ = _
          rw [pv_ok G elt ρ2 dd hd, Out.bind_okS, if_pos (ckS ρ2 k1), w2]
        · rintro rfl
          show (if sameB ik ρ ρ2 = true then Out.ok (([] : List D), wipeP ρ2 vs) else .bad) = _
          rw [if_pos (ckS ρ2 k1), w2]
    · cases h4
  | .comp2 vs tg ik ies conds vs1 tg1 ik1 ies1 conds1 elt, ρ, d, h => by
    unfold pv at h
    obtain ⟨q, h1, h2⟩ := bindS h
    obtain ⟨items, h3, h4⟩ := bindS h2
    split at h4
    · rename_i hc
      obtain ⟨ck, ck1, sub, b0, b1, own⟩ := hc
      obtain ⟨ys, h5, h6⟩ := bindS h4
      have ckT : ∀ i ∈ tg.2, i ∈ vs := by
        intro i hi
        have := (Bool.and_eq_true _ _ ▸ ck : _ ∧ _).1
        simpa using List.all_eq_true.mp this i hi
      have ckT1 : ∀ i ∈ tg1.2, i ∈ vs1 := by
        intro i hi
        have := (Bool.and_eq_true _ _ ▸ ck1 : _ ∧ _).1
        simpa using List.all_eq_true.mp this i hi
      have sub' : ∀ i ∈ vs1, i ∈ vs := fun i hi => by simpa using List.all_eq_true.mp sub i hi
      unfold ev
      rw [pvs_ok G ies ρ q h1, Out.bind_okS, h3, Out.of_someS, Out.bind_okS, if_pos ⟨own, b0, b1⟩]
      rw [compL_B (fun x zs hx => ?_) h5, Out.bind_okS]
      · split at h6
        · rename_i c
          cases h6
          rw [if_pos c, back_wipe]
        · cases h6
      · obtain ⟨ρ2, c1, c2⟩ := bindS hx
        obtain ⟨k1, k2⟩ := setT_keep c1 ckT
        have w2 : wipeP ρ2 vs = wipeP ρ vs := by
          rw [wipe_keep k1 k2, wipe_wipe fun i hi => hi]
        obtain ⟨t, c3, c4⟩ := bindS c2
        rw [c1, Out.of_someS, Out.bind_okS, pvC_ok G true conds ρ2 t c3, Out.bind_okS]
        cases t with
        | true =>
          obtain ⟨q1, c5, c6⟩ := bindS c4
          obtain ⟨items1, c7, c8⟩ := bindS c6
          show (evs G ies1 ρ2).bind _ = _
          rw [pvs_ok G ies1 ρ2 q1 c5, Out.bind_okS, c7, Out.of_someS, Out.bind_okS]
          rw [compL_Q (fun y u hy => ?_) c8, Out.bind_okS, wipe_wipe sub', w2]
          obtain ⟨ρ4, e1, e2⟩ := bindS hy
          obtain ⟨l1, l2⟩ := setT_keep e1 ckT1
          have w4 : wipeP ρ4 vs1 = wipeP ρ2 vs1 := by
            rw [wipe_keep l1 l2, wipe_wipe fun i hi => hi]
          rw [e1, Out.of_someS, Out.bind_okS, pvC_ok G true conds1 ρ4 u e2, Out.bind_okS]
          constructor
          · rintro rfl dd hd
            rw [Option.bind_some] at hd
            show (ev G elt ρ4).bind _ = _
            rw [pv_ok G elt ρ4 dd hd, Out.bind_okS, w4]
          · rintro rfl
            show Out.ok (([] : List D), wipeP ρ4 vs1) = _
            rw [w4]
        | false =>
          cases c4
          show Out.ok (([] : List D), wipeP ρ2 vs) = _
          rw [w2]
    · cases h4
  | .pop i b, ρ, d, h => by unfold pv at h; cases h
  | .isi a ty, ρ, d, h => by
    unfold pv at h
    obtain ⟨x, h1, h2⟩ := bindS h
    obtain ⟨o, h3, h4⟩ := pa_ok G a ρ x h1
    unfold ev
    rw [h3, Out.bind_okS, h4, Out.of_someS, Out.bind_okS]
    split at h2
    · cases h2
    · rename_i ho
      cases h2
      rw [if_neg ho]
  | .make c es, ρ, d, h => by
    unfold pv at h
    obtain ⟨ds, h1, h2⟩ := bindS h
    unfold ev
    rw [pvs_ok G es ρ ds h1, Out.bind_okS]
    unfold mkP at h2
    cases e : makeR G c ds with
    | bad => rw [e] at h2; cases h2
    | ok x => rw [e] at h2; cases h2; rfl
  | .meth o m es, ρ, d, h => by
    unfold pv at h
    obtain ⟨x, h1, h2⟩ := bindS h
    obtain ⟨ds, h3, h4⟩ := bindS h2
    unfold ev
    rw [pv_ok G o ρ x h1, Out.bind_okS, pvs_ok G es ρ ds h3, Out.bind_okS]
    unfold mthP at h4
    cases e : methR G x m ds with
    | bad => rw [e] at h4; cases h4
    | ok s => rw [e] at h4; cases h4; rfl
  | .oeq neg a b, ρ, d, h => by
    unfold pv at h
    obtain ⟨x, h1, h⟩ := bindS h
    obtain ⟨y, h2, h⟩ := bindS h
    obtain ⟨t, h3, h⟩ := bindS h
    cases h
    unfold ev
    rw [pv_ok G a ρ x h1, Out.bind_okS, pv_ok G b ρ y h2, Out.bind_okS]
    unfold oeqP at h3
    cases e : oeqR G x y with
    | bad => rw [e] at h3; cases h3
    | ok s => rw [e] at h3; cases h3; rfl
  | .isc a c, ρ, d, h => by
    unfold pv at h
    obtain ⟨x, h1, h⟩ := bindS h
    unfold ev
    rw [pv_ok G a ρ x h1, Out.bind_okS]
    unfold iscP at h
    split at h
    · split at h
      · rename_i c1; cases h; simp only []; rw [if_pos c1]
      · cases h
    · cases h
  | .chn o p a b c, ρ, d, h => by
    unfold pv at h
    obtain ⟨x, h1, h⟩ := bindS h
    obtain ⟨y, h2, h⟩ := bindS h
    obtain ⟨t, h3, h⟩ := bindS h
    unfold ev
    rw [pv_ok G a ρ x h1, Out.bind_okS, pv_ok G b ρ y h2, Out.bind_okS, h3, Out.of_someS, Out.bind_okS]
    cases t with
    | false => cases h; rfl
    | true =>
      obtain ⟨z, h4, h⟩ := bindS h
      obtain ⟨u, h5, h6⟩ := mapS h
      simp only []
      rw [pv_ok G c ρ z h4, Out.bind_okS, h5, Out.of_someS, Out.bind_okS, h6]
theorem pvT_ok (G : Sig) : ∀ (t : T) (ρ : PEnv) (b : Bool), pvT G t ρ = some b → evT G t ρ = .ok (b, ρ)
  | .bop c ts, ρ, b, h => by
    unfold pvT at h
    unfold evT
    exact pvC_ok G c ts ρ b h
  | .not a, ρ, b, h => by
    unfold pvT at h
    obtain ⟨x, h1, h2⟩ := mapS h
    unfold evT
    rw [pvT_ok G a ρ x h1, Out.bind_okS, h2]
  | .val a, ρ, b, h => by
    unfold pvT at h
    obtain ⟨x, h1, h2⟩ := bindS h
    obtain ⟨o, h3, h4⟩ := pa_ok G a ρ x h1
    unfold evT
    rw [h3, Out.bind_okS, h4, Out.of_someS, Out.bind_okS, h2, Out.of_someS, Out.bind_okS]
theorem pa_ok (G : Sig) : ∀ (a : Ar) (ρ : PEnv) (d : D), pa G a ρ = some d → ∃ o, opnd G a ρ = .ok (o, ρ) ∧ rdO ρ o = some d
  | .slot i, ρ, d, h => by
    unfold pa at h
    refine ⟨.slot i, ?_, h⟩
    unfold opnd
    cases c : getS ρ i with
    | none => unfold rdO at h; simp only [c] at h; cases h
    | some s => rfl
  | .ex e, ρ, d, h => by
    unfold pa at h
    exact ⟨.val d, by unfold opnd; rw [pv_ok G e ρ d h, Out.bind_okS], rfl⟩
theorem pas_ok (G : Sig) : ∀ (as : List Ar) (ρ : PEnv) (ds : List D), pas G as ρ = some ds → ∃ os, opnds G as ρ = .ok (os, ρ) ∧ rdAll ρ os = some ds
  | [], ρ, ds, h => by
    unfold pas at h
    cases h
    exact ⟨[], by unfold opnds; rfl, rfl⟩
  | a :: as, ρ, ds, h => by
    unfold pas at h
    obtain ⟨d, h1, h2⟩ := bindS h
    obtain ⟨es, h3, h4⟩ := mapS h2
    obtain ⟨o, b1, b2⟩ := pa_ok G a ρ d h1
    obtain ⟨os, b3, b4⟩ := pas_ok G as ρ es h3
    refine ⟨o :: os, by unfold opnds; rw [b1, Out.bind_okS, b3, Out.bind_okS], ?_⟩
    unfold rdAll
    rw [b2, b4, ← h4]
theorem pxs_ok (G : Sig) : ∀ (as : List Ar) (ρ : PEnv) (ds : List D), pxs G as ρ = some ds → opnds G as ρ = .ok (ds.map .val, ρ)
  | [], ρ, ds, h => by
    unfold pxs at h
    cases h
    unfold opnds; rfl
  | .slot i :: as, ρ, ds, h => by unfold pxs at h; cases h
  | .ex e :: as, ρ, ds, h => by
    unfold pxs at h
    obtain ⟨d, h1, h2⟩ := bindS h
    obtain ⟨es, h3, h4⟩ := mapS h2
    unfold opnds opnd
    rw [pv_ok G e ρ d h1, Out.bind_okS, Out.bind_okS, pxs_ok G as ρ es h3, Out.bind_okS, ← h4]
    rfl
theorem pvs_ok (G : Sig) : ∀ (es : List E) (ρ : PEnv) (ds : List D), pvs G es ρ = some ds → evs G es ρ = .ok (ds, ρ)
  | [], ρ, ds, h => by
    unfold pvs at h
    cases h
    unfold evs; rfl
  | e :: es, ρ, ds, h => by
    unfold pvs at h
    obtain ⟨d, h1, h2⟩ := bindS h
    obtain ⟨xs, h3, h4⟩ := mapS h2
    unfold evs
    rw [pv_ok G e ρ d h1, Out.bind_okS, pvs_ok G es ρ xs h3, Out.bind_okS, ← h4]
theorem pvC_ok (G : Sig) (c : Bool) : ∀ (ts : List T) (ρ : PEnv) (b : Bool), pvC G c ts ρ = some b → evC G c ts ρ = .ok (b, ρ)
  | [], ρ, b, h => by
    unfold pvC at h
    cases h
    unfold evC; rfl
  | t :: ts, ρ, b, h => by
    unfold pvC at h
    obtain ⟨x, h1, h2⟩ := bindS h
    unfold evC
    rw [pvT_ok G t ρ x h1, Out.bind_okS]
    split at h2
    · rename_i e
      rw [if_pos e]
      exact pvC_ok G c ts ρ b h2
    · rename_i e
      cases h2
      rw [if_neg e]
theorem pvB_ok (G : Sig) (c : Bool) : ∀ (es : List E) (ρ : PEnv) (d : D), pvB G c es ρ = some d → evB G c es ρ = .ok (d, ρ)
  | [], ρ, d, h => by unfold pvB at h; cases h
  | [e], ρ, d, h => by
    unfold pvB at h
    obtain ⟨x, h1, h2⟩ := bindS h
    cases h2
    unfold evB
    rw [pv_ok G e ρ _ h1, Out.bind_okS]
  | e :: e2 :: es, ρ, d, h => by
    unfold pvB at h
    obtain ⟨x, h1, h2⟩ := bindS h
    unfold evB
    rw [pv_ok G e ρ _ h1, Out.bind_okS]
    cases x with
    | bl b =>
      show (if b = c then evB G c (e2 :: es) ρ else .ok (.bl b, ρ)) = _
      have h2 : (if b = c then pvB G c (e2 :: es) ρ else some (.bl b)) = some d := h2
      split at h2
      · rename_i e; rw [if_pos e]; exact pvB_ok G c (e2 :: es) ρ d h2
      · rename_i e; cases h2; rw [if_neg e]
    | _ => cases h2
end
end Py

set_option Elab.async false
set_option linter.all false
set_option maxRecDepth 100000
set_option maxHeartbeats 2000000
/-! pure expressions: rules for simp -/
namespace Py
open PySem L2 Px
/-- not by rfl: the kernel is to see the step -/
theorem oB {α β : Type} {a : α} {f : α → Option β} : (some a).bind f = f a := of_eq_true (eq_self (f a))
/-- and, or: of values -/
def bopF (c : Bool) (d : D) (o : Option D) : Option D := match d with
  | .bl b => if b = c then o else some (.bl b)
  | _ => none
theorem bopF_and {b c : Bool} : bopF true (.bl b) (some (.bl c)) = some (.bl (b && c)) := by cases b <;> rfl
theorem bopF_or {b c : Bool} : bopF false (.bl b) (some (.bl c)) = some (.bl (b || c)) := by cases b <;> rfl
theorem bopF_ff {o : Option D} : bopF true (.bl false) o = some (.bl false) := rfl
theorem bopF_tt {o : Option D} : bopF false (.bl true) o = some (.bl true) := rfl
theorem bopF_tf {o : Option D} : bopF true (.bl true) o = o := of_eq_true (eq_self o)
theorem bopF_ft {o : Option D} : bopF false (.bl false) o = o := of_eq_true (eq_self o)
/-- and, or: of tests -/
def cTF (c : Bool) (b : Bool) (o : Option Bool) : Option Bool := if b = c then o else some b
theorem cTF_and {b c : Bool} : cTF true b (some c) = some (b && c) := by cases b <;> rfl
theorem cTF_or {b c : Bool} : cTF false b (some c) = some (b || c) := by cases b <;> rfl
theorem cTF_ff {o : Option Bool} : cTF true false o = some false := rfl
theorem cTF_tt {o : Option Bool} : cTF false true o = some true := rfl
theorem cTF_tf {o : Option Bool} : cTF true true o = o := of_eq_true (eq_self o)
theorem cTF_ft {o : Option Bool} : cTF false false o = o := of_eq_true (eq_self o)
def iteF {α : Type} (t : Bool) (a b : Option α) : Option α := match t with
  | true => a
  | false => b
theorem iteF_ite {α : Type} {t : Bool} {a b : Option α} : iteF t a b = if t = true then a else b := by cases t <;> rfl
theorem iD_ite {p : Prop} [Decidable p] {a b : D} : (if p then some a else some b) = some (if p then a else b) := by by_cases h : p <;> simp [h]
theorem iteF_some {α : Type} {t : Bool} {a b : α} : iteF t (some a) (some b) = some (if t = true then a else b) := by cases t <;> rfl
theorem iteF_t {α : Type} {a b : Option α} : iteF true a b = a := of_eq_true (eq_self a)
theorem iteF_f {α : Type} {a b : Option α} : iteF false a b = b := of_eq_true (eq_self b)
section
variable {p : Prop} [Decidable p] {b : Bool} {o : Option Bool} {od : Option D}
theorem cTF_dT : cTF true (decide p) o = if p then o else some false := by unfold cTF; by_cases h : p <;> simp [h]
theorem cTF_dF : cTF false (decide p) o = if p then some true else o := by unfold cTF; by_cases h : p <;> simp [h]
theorem cTF_nT : cTF true (!decide p) o = if p then some false else o := by unfold cTF; by_cases h : p <;> simp [h]
theorem cTF_nF : cTF false (!decide p) o = if p then o else some true := by unfold cTF; by_cases h : p <;> simp [h]
theorem bopF_dT : bopF true (.bl (decide p)) od = if p then od else some (.bl false) := by unfold bopF; by_cases h : p <;> simp [h]
theorem bopF_dF : bopF false (.bl (decide p)) od = if p then some (.bl true) else od := by unfold bopF; by_cases h : p <;> simp [h]
theorem bopF_nT : bopF true (.bl (!decide p)) od = if p then some (.bl false) else od := by unfold bopF; by_cases h : p <;> simp [h]
theorem bopF_nF : bopF false (.bl (!decide p)) od = if p then od else some (.bl true) := by unfold bopF; by_cases h : p <;> simp [h]
theorem iS_and : (if p then some b else some false) = some (decide p && b) := by by_cases h : p <;> simp [h]
theorem iS_or : (if p then some true else some b) = some (decide p || b) := by by_cases h : p <;> simp [h]
theorem iS_nand : (if p then some false else some b) = some (!decide p && b) := by by_cases h : p <;> simp [h]
theorem iS_nor : (if p then some b else some true) = some (!decide p || b) := by by_cases h : p <;> simp [h]
theorem iD_and : (if p then some (D.bl b) else some (D.bl false)) = some (D.bl (decide p && b)) := by by_cases h : p <;> simp [h]
theorem iD_or : (if p then some (D.bl true) else some (D.bl b)) = some (D.bl (decide p || b)) := by by_cases h : p <;> simp [h]
theorem iD_nand : (if p then some (D.bl false) else some (D.bl b)) = some (D.bl (!decide p && b)) := by by_cases h : p <;> simp [h]
theorem iD_nor : (if p then some (D.bl b) else some (D.bl true)) = some (D.bl (!decide p || b)) := by by_cases h : p <;> simp [h]
end
/-- a display -/
def dspF (b : Bool) (ds : List D) : Option D := if ds.length ≤ lim then some (if b then .tup ds else .lst ds) else none
theorem dspF_t {ds : List D} (h : ds.length ≤ 1000000) : dspF true ds = some (.tup ds) := if_pos (show ds.length ≤ 16777216 by omega)
theorem dspF_l {ds : List D} (h : ds.length ≤ 1000000) : dspF false ds = some (.lst ds) := if_pos (show ds.length ≤ 16777216 by omega)
/-- a comprehension's list -/
def mkL (ys : List D) : Option D := if ys.length < lim then some (.lst ys) else none
theorem mkL_ok {ys : List D} (h : ys.length < 1000000) : mkL ys = some (.lst ys) := if_pos (show ys.length < 16777216 by omega)
theorem mkL_fm {α : Type} {L : List α} {p : α → Bool} {g : α → D} (h : L.length < 1000000) : mkL ((L.filter p).map g) = some (.lst ((L.filter p).map g)) := mkL_ok (by
  have := List.length_filter_le p L
  rw [List.length_map]; omega)
def notF (d : D) : Option D := match d with
  | .bl b => some (.bl (!b))
  | _ => none
theorem notF_b {b : Bool} : notF (.bl b) = some (.bl (!b)) := rfl
section
variable {G : Sig} {ρ : PEnv}
theorem pv_var {i : Nat} : pv G (.var i) ρ = match getS ρ i with | some (.dat d) => some d | _ => none := by rw [pv] <;> rfl
theorem pv_con {d : D} : pv G (.con d) ρ = some d := by rw [pv]
theorem pv_prim {p : P} {as : List Ar} : pv G (.prim p as) ρ = (pas G as ρ).bind fun ds => primF p ds := by rw [pv]
theorem pv_dsp {b : Bool} {es : List E} : pv G (.dsp b es) ρ = (pvs G es ρ).bind fun ds => dspF b ds := by rw [pv] <;> rfl
theorem pv_bop {c : Bool} {es : List E} : pv G (.bop c es) ρ = pvB G c es ρ := by rw [pv]
theorem pv_not {a : E} : pv G (.not a) ρ = (pv G a ρ).bind fun d => notF d := by rw [pv] <;> rfl
theorem pv_ite {c : T} {a b : E} : pv G (.ite c a b) ρ = (pvT G c ρ).bind fun t => iteF t (pv G a ρ) (pv G b ρ) := by rw [pv] <;> rfl
theorem pv_call {f : Str} {as : List Ar} : pv G (.call f as) ρ = (pxs G as ρ).bind fun ds => callP G f ds := by rw [pv]
theorem mapB {α β : Type} {x : Option α} {f : α → β} : x.map f = x.bind fun a => some (f a) := by cases x <;> rfl
/-- what comes of the first comparison, then the second -/
def chnF (t : D) (r : Option D) : Option D := match t with
  | .bl true => r
  | .bl false => some (.bl false)
  | _ => none
theorem chnF_t {r : Option D} : chnF (.bl true) r = r := rfl
theorem chnF_f {r : Option D} : chnF (.bl false) r = some (.bl false) := rfl
theorem chnF_b {b c : Bool} : chnF (.bl b) (some (.bl c)) = some (.bl (b && c)) := by cases b <;> rfl
theorem pv_chn {o p : CmpOp} {a b c : E} : pv G (.chn o p a b c) ρ = (pv G a ρ).bind fun x => (pv G b ρ).bind fun y => (primF (.cmp o) [x, y]).bind fun t => chnF t ((pv G c ρ).bind fun z => primF (.cmp p) [y, z]) := by
  rw [pv]
  congr 1; funext x
  congr 1; funext y
  show _ = ((cmpF o x y).map D.bl).bind _
  cases cmpF o x y with
  | none => rfl
  | some t => cases t <;> rfl
theorem pv_isi {a : Ar} {ty : IT} : pv G (.isi a ty) ρ = (pa G a ρ).bind fun d => if d.isObj = true then none else some (.bl (isiF d ty)) := by rw [pv]
/-- what a comprehension asks of its frame -/
def okC (vs : List Nat) (tg : Bool × List Nat) (ik : IK) (ρ : PEnv) : Bool := ckB vs tg ik && (vs.all fun v => !isOwn (getS ρ v))
def guardO {α : Type} (b : Bool) (o : Option α) : Option α := if b = true then o else none
theorem guardO_t {α : Type} {o : Option α} : guardO true o = o := of_eq_true (eq_self o)
theorem pv_comp {vs : List Nat} {tg : Bool × List Nat} {ik : IK} {ies : List E} {conds : List T} {elt : E} : pv G (.comp vs tg ik ies conds elt) ρ = guardO (okC vs tg ik ρ) ((pvs G ies ρ).bind fun q => (itemsOf ρ ik q).bind fun items =>
      (compQ (fun x => (setT (wipeP ρ vs) tg x).bind fun ρ2 => pvC G true conds ρ2) (fun x => (setT (wipeP ρ vs) tg x).bind fun ρ2 => pv G elt ρ2) items).bind fun ys => mkL ys) := by
  rw [pv]
  unfold guardO okC
  simp only [Bool.and_eq_true]
  by_cases h : ckB vs tg ik = true ∧ (vs.all fun v => !isOwn (getS ρ v)) = true
  · rw [if_pos h]
    cases pvs G ies ρ with
    | none => rfl
    | some q =>
      rw [Option.bind_some, Option.bind_some]
      cases itemsOf ρ ik q with
      | none => rfl
      | some items => rw [Option.bind_some, Option.bind_some, if_pos h]; rfl
  · rw [if_neg h]
    cases pvs G ies ρ with
    | none => rfl
    | some q =>
      rw [Option.bind_some]
      cases itemsOf ρ ik q with
      | none => rfl
      | some items => rw [Option.bind_some, if_neg h]
theorem pv_comp2 {vs : List Nat} {tg : Bool × List Nat} {ik : IK} {ies : List E} {conds : List T} {vs1 : List Nat} {tg1 : Bool × List Nat} {ik1 : IK} {ies1 : List E} {conds1 : List T} {elt : E} : pv G (.comp2 vs tg ik ies conds vs1 tg1 ik1 ies1 conds1 elt) ρ =
    guardO (okC vs tg ik ρ && ckB vs1 tg1 ik1 && (vs1.all fun i => vs.contains i) && !isBrw ik && !isBrw ik1) ((pvs G ies ρ).bind fun q => (itemsOf ρ ik q).bind fun items =>
        (compB (fun x => (setT (wipeP ρ vs) tg x).bind fun ρ2 => (pvC G true conds ρ2).bind fun t => iteF t
          ((pvs G ies1 ρ2).bind fun q1 => (itemsOf ρ2 ik1 q1).bind fun items1 => compQ (fun y => (setT (wipeP ρ2 vs1) tg1 y).bind fun ρ4 => pvC G true conds1 ρ4) (fun y => (setT (wipeP ρ2 vs1) tg1 y).bind fun ρ4 => pv G elt ρ4) items1)
          (some [])) items).bind fun ys => mkL ys) := by
  rw [pv]
  unfold guardO okC
  by_cases h : ckB vs tg ik = true ∧ ckB vs1 tg1 ik1 = true ∧ (vs1.all fun i => vs.contains i) = true ∧ isBrw ik = false ∧ isBrw ik1 = false ∧ (vs.all fun v => !isOwn (getS ρ v)) = true
  · have h' : (ckB vs tg ik && (vs.all fun v => !isOwn (getS ρ v)) && ckB vs1 tg1 ik1 && (vs1.all fun i => vs.contains i) && !isBrw ik && !isBrw ik1) = true := by
      obtain ⟨a, b, c, d, e, f⟩ := h
      rw [a, b, c, d, e, f]; rfl
    rw [if_pos h']
    cases pvs G ies ρ with
    | none => rfl
    | some q =>
      rw [Option.bind_some, Option.bind_some]
      cases itemsOf ρ ik q with
      | none => rfl
      | some items => rw [Option.bind_some, Option.bind_some, if_pos h]; rfl
  · have h' : ¬ (ckB vs tg ik && (vs.all fun v => !isOwn (getS ρ v)) && ckB vs1 tg1 ik1 && (vs1.all fun i => vs.contains i) && !isBrw ik && !isBrw ik1) = true := by
      intro c
      simp only [Bool.and_eq_true, Bool.not_eq_true'] at c
      obtain ⟨⟨⟨⟨⟨a, f⟩, b⟩, c⟩, d⟩, e⟩ := c
      exact h ⟨a, b, c, d, e, f⟩
    rw [if_neg h']
    cases pvs G ies ρ with
    | none => rfl
    | some q =>
      rw [Option.bind_some]
      cases itemsOf ρ ik q with
      | none => rfl
      | some items => rw [Option.bind_some, if_neg h]
theorem pvT_bop {c : Bool} {ts : List T} : pvT G (.bop c ts) ρ = pvC G c ts ρ := by rw [pvT]
theorem pvT_not {a : T} : pvT G (.not a) ρ = (pvT G a ρ).bind fun b => some (!b) := by rw [pvT, mapB]
theorem pvT_val {a : Ar} : pvT G (.val a) ρ = (pa G a ρ).bind fun d => truD d := by rw [pvT]
theorem pa_slot {i : Nat} : pa G (.slot i) ρ = (getS ρ i).bind Px.Slot.rd := by
  rw [pa]
  unfold rdO
  simp only []
  generalize getS ρ i = o
  match o with
  | none => rfl
  | some (.dat d) => rfl
  | some (.mo (.lst xs)) => rfl
  | some (.mo (.ins _ _ _)) => rfl
theorem pa_ex {e : E} : pa G (.ex e) ρ = pv G e ρ := by rw [pa]
theorem pas_nil : pas G [] ρ = some [] := by rw [pas]
theorem pas_cons {a : Ar} {as : List Ar} : pas G (a :: as) ρ = (pa G a ρ).bind fun d => (pas G as ρ).bind fun ds => some (d :: ds) := by rw [pas]; simp only [mapB]
theorem pxs_nil : pxs G [] ρ = some [] := by rw [pxs]
theorem pxs_cons {e : E} {as : List Ar} : pxs G (.ex e :: as) ρ = (pv G e ρ).bind fun d => (pxs G as ρ).bind fun ds => some (d :: ds) := by rw [pxs]; simp only [mapB]
theorem pvs_nil : pvs G [] ρ = some [] := by rw [pvs]
theorem pvs_cons {e : E} {es : List E} : pvs G (e :: es) ρ = (pv G e ρ).bind fun d => (pvs G es ρ).bind fun ds => some (d :: ds) := by rw [pvs]; simp only [mapB]
theorem pvC_nil {c : Bool} : pvC G c [] ρ = some c := by rw [pvC]
theorem pvC_cons {c : Bool} {t : T} {ts : List T} : pvC G c (t :: ts) ρ = (pvT G t ρ).bind fun b => cTF c b (pvC G c ts ρ) := by rw [pvC] <;> rfl
theorem pvB_one {c : Bool} {e : E} : pvB G c [e] ρ = pv G e ρ := by
  rw [pvB]
  cases pv G e ρ <;> rfl
theorem pvB_more {c : Bool} {e e2 : E} {es : List E} : pvB G c (e :: e2 :: es) ρ = (pv G e ρ).bind fun d => bopF c d (pvB G c (e2 :: es) ρ) := by rw [pvB] <;> rfl
end
/-! ### comprehensions -/
theorem compQ_congr {α β : Type} {c c' : α → Option Bool} {e e' : α → Option β} {L L' : List α} (hL : L = L') (hc : ∀ x, x ∈ L' → c x = c' x) (he : ∀ x, x ∈ L' → c' x = some true → e x = e' x) : compQ c e L = compQ c' e' L' := by
  subst hL
  induction L with
  | nil => rfl
  | cons x xs ih =>
    unfold compQ
    rw [hc x (List.mem_cons_self ..)]
    cases h : c' x with
    | none => rfl
    | some t =>
      cases t with
      | true =>
        show (e x).bind _ = (e' x).bind _
        rw [he x (List.mem_cons_self ..) h, ih (fun y hy => hc y (List.mem_cons_of_mem _ hy)) fun y hy => he y (List.mem_cons_of_mem _ hy)]
      | false => exact ih (fun y hy => hc y (List.mem_cons_of_mem _ hy)) fun y hy => he y (List.mem_cons_of_mem _ hy)
theorem compQ_map {α β γ : Type} {c : β → Option Bool} {e : β → Option γ} (φ : α → β) : ∀ L : List α, compQ c e (L.map φ) = compQ (fun x => c (φ x)) (fun x => e (φ x)) L
  | [] => rfl
  | x :: xs => by
    rw [List.map_cons]
    unfold compQ
    rw [compQ_map φ xs]
theorem compQ_some {α β : Type} (p : α → Bool) (g : α → β) : ∀ L : List α, compQ (fun x => some (p x)) (fun x => some (g x)) L = some ((L.filter p).map g)
  | [] => rfl
  | x :: xs => by
    unfold compQ
    rw [compQ_some p g xs, Option.bind_some, List.filter_cons]
    cases p x <;> rfl
theorem compQ_all {α β : Type} (g : α → β) (L : List α) : compQ (fun _ => some true) (fun x => some (g x)) L = some (L.map g) := by
  rw [compQ_some (fun _ => true) g]
  rw [List.filter_eq_self.mpr fun _ _ => rfl]
theorem compQ_nil {α β : Type} {c : α → Option Bool} {e : α → Option β} : compQ c e [] = some [] := rfl
theorem compQ_cons {α β : Type} {c : α → Option Bool} {e : α → Option β} {x : α} {xs : List α} : compQ c e (x :: xs) = (c x).bind fun t => iteF t ((e x).bind fun d => (compQ c e xs).bind fun ds => some (d :: ds)) (compQ c e xs) := by
  rw [compQ]
  simp only [mapB]
  congr 1
theorem flt_true {α : Type} (L : List α) : L.filter (fun _ => true) = L := List.filter_eq_self.mpr fun _ _ => rfl
/-- a turn: nothing, or an item -/
def stp {β : Type} (c : Option Bool) (e : Option β) : Option (Option β) := c.bind fun t => if t = true then e.bind fun d => some (some d) else some none
theorem stp_t {β : Type} {e : Option β} : stp (some true) e = e.bind fun d => some (some d) := of_eq_true (eq_self _)
theorem stp_b {β : Type} {b : Bool} {e : Option β} : stp (some b) e = if b = true then e.bind fun d => some (some d) else some none := of_eq_true (eq_self _)
def compG {α β : Type} (h : α → Option (Option β)) : List α → Option (List β)
  | [] => some []
  | x :: xs => (h x).bind fun o => match o with
    | some d => (compG h xs).bind fun ds => some (d :: ds)
    | none => compG h xs
theorem compG_Q {α β : Type} (c : α → Option Bool) (e : α → Option β) : ∀ L : List α, compQ c e L = compG (fun x => stp (c x) (e x)) L
  | [] => rfl
  | x :: xs => by
    unfold compQ compG
    rw [compG_Q c e xs]
    unfold stp
    cases c x with
    | none => rfl
    | some t =>
      cases t with
      | true =>
        simp only [Option.bind_some, if_true]
        cases e x with
        | none => rfl
        | some d => simp only [Option.bind_some, mapB]
      | false => rfl
theorem compG_congr {α β : Type} {h h' : α → Option (Option β)} : ∀ {L : List α}, (∀ x ∈ L, h x = h' x) → compG h L = compG h' L
  | [], _ => rfl
  | x :: xs, e => by
    unfold compG
    rw [e x (List.mem_cons_self ..), compG_congr fun y hy => e y (List.mem_cons_of_mem _ hy)]
theorem compG_map {α β : Type} (g : α → β) : ∀ L : List α, compG (fun x => some (some (g x))) L = some (L.map g)
  | [] => rfl
  | x :: xs => by
    unfold compG
    rw [Option.bind_some, compG_map g xs]; rfl
theorem compG_flt {α β : Type} (p : α → Prop) {_ : DecidablePred p} (g : α → β) : ∀ L : List α, compG (fun x => if p x then some (some (g x)) else some none) L = some ((L.filter fun x => decide (p x)).map g)
  | [] => rfl
  | x :: xs => by
    unfold compG
    rw [compG_flt p g xs, List.filter_cons]
    by_cases h : p x
    · simp [h]
    · simp [h]
/-- numbers from 0, items of a list: with what is known of each -/
def compN {β : Type} (n : Nat) (h : Nat → Option (Option β)) : Option (List β) := compG h (List.range n)
def compM {α β : Type} (L : List α) (h : α → Option (Option β)) : Option (List β) := compG h L
theorem compQ_rg {β : Type} {c : Nat → Option Bool} {e : Nat → Option β} {n : Nat} : compQ c e (List.range n) = compN n fun k => if k < n then stp (c k) (e k) else none := by
  rw [compG_Q]
  exact compG_congr fun k hk => (if_pos (List.mem_range.mp hk)).symm
theorem memQ {α β : Type} (L : List α) {c : α → Option Bool} {e : α → Option β} : compQ c e L = compM L fun x => @ite _ (x ∈ L) (Classical.propDecidable _) (stp (c x) (e x)) none := by
  rw [compG_Q]
  exact compG_congr fun k hk => (if_pos hk).symm
theorem N_map {β : Type} {n : Nat} {q : Nat → Prop} {_ : DecidablePred q} {g : Nat → β} (h : ∀ k, k < n → q k) : compN n (fun k => if q k then some (some (g k)) else none) = some ((List.range n).map g) :=
  (compG_congr fun k hk => if_pos (h k (List.mem_range.mp hk))).trans (compG_map g _)
theorem N_flt {β : Type} {n : Nat} {q : Nat → Prop} {_ : DecidablePred q} {p : Nat → Prop} {_ : DecidablePred p} {g : Nat → β} (h : ∀ k, k < n → q k) : compN n (fun k => if q k then (if p k then some (some (g k)) else some none) else none) = some (((List.range n).filter fun k => decide (p k)).map g) :=
  (compG_congr fun k hk => if_pos (h k (List.mem_range.mp hk))).trans (compG_flt p g _)
theorem N_map' {β : Type} {n : Nat} {g : Nat → β} : compN n (fun k => some (some (g k))) = some ((List.range n).map g) := compG_map g _
theorem N_flt' {β : Type} {n : Nat} {p : Nat → Prop} {_ : DecidablePred p} {g : Nat → β} : compN n (fun k => if p k then some (some (g k)) else some none) = some (((List.range n).filter fun k => decide (p k)).map g) := compG_flt p g _
theorem M_map {α β : Type} {L : List α} {q : α → Prop} {_ : DecidablePred q} {g : α → β} (h : ∀ k, k ∈ L → q k) : compM L (fun k => if q k then some (some (g k)) else none) = some (L.map g) :=
  (compG_congr fun k hk => if_pos (h k hk)).trans (compG_map g _)
theorem M_flt {α β : Type} {L : List α} {q : α → Prop} {_ : DecidablePred q} {p : α → Prop} {_ : DecidablePred p} {g : α → β} (h : ∀ k, k ∈ L → q k) : compM L (fun k => if q k then (if p k then some (some (g k)) else some none) else none) = some ((L.filter fun k => decide (p k)).map g) :=
  (compG_congr fun k hk => if_pos (h k hk)).trans (compG_flt p g _)
theorem M_map' {α β : Type} {L : List α} {g : α → β} : compM L (fun k => some (some (g k))) = some (L.map g) := compG_map g _
theorem M_flt' {α β : Type} {L : List α} {p : α → Prop} {_ : DecidablePred p} {g : α → β} : compM L (fun k => if p k then some (some (g k)) else some none) = some ((L.filter fun k => decide (p k)).map g) := compG_flt p g _
theorem compB_nil {α β : Type} {f : α → Option (List β)} : compB f [] = some [] := rfl
theorem compB_map {α β γ : Type} {f : β → Option (List γ)} (φ : α → β) : ∀ L : List α, compB f (L.map φ) = compB (fun x => f (φ x)) L
  | [] => rfl
  | x :: xs => by
    rw [List.map_cons]
    unfold compB
    rw [compB_map φ xs]
theorem compB_congr {α β : Type} {f f' : α → Option (List β)} : ∀ {L : List α}, (∀ x ∈ L, f x = f' x) → compB f L = compB f' L
  | [], _ => rfl
  | x :: xs, e => by
    unfold compB
    rw [e x (List.mem_cons_self ..), compB_congr fun y hy => e y (List.mem_cons_of_mem _ hy)]
theorem compB_some {α β : Type} (g : α → List β) : ∀ L : List α, compB (fun x => some (g x)) L = some (L.flatMap g)
  | [] => rfl
  | x :: xs => by
    unfold compB
    rw [compB_some g xs]; rfl
def compBN {β : Type} (n : Nat) (f : Nat → Option (List β)) : Option (List β) := compB f (List.range n)
def compBM {α β : Type} (L : List α) (f : α → Option (List β)) : Option (List β) := compB f L
theorem compB_rg {β : Type} {f : Nat → Option (List β)} {n : Nat} : compB f (List.range n) = compBN n fun k => if k < n then f k else none :=
  compB_congr fun k hk => (if_pos (List.mem_range.mp hk)).symm
theorem memB {α β : Type} (L : List α) {f : α → Option (List β)} : compB f L = compBM L fun x => @ite _ (x ∈ L) (Classical.propDecidable _) (f x) none :=
  compB_congr fun k hk => (if_pos hk).symm
theorem BN_map {β : Type} {n : Nat} {q : Nat → Prop} {_ : DecidablePred q} {g : Nat → List β} (h : ∀ k, k < n → q k) : compBN n (fun k => if q k then some (g k) else none) = some ((List.range n).flatMap g) :=
  (compB_congr fun k hk => if_pos (h k (List.mem_range.mp hk))).trans (compB_some g _)
theorem BM_map {α β : Type} {L : List α} {q : α → Prop} {_ : DecidablePred q} {g : α → List β} (h : ∀ k, k ∈ L → q k) : compBM L (fun k => if q k then some (g k) else none) = some (L.flatMap g) :=
  (compB_congr fun k hk => if_pos (h k hk)).trans (compB_some g _)
theorem BN_map' {β : Type} {n : Nat} {g : Nat → List β} : compBN n (fun k => some (g k)) = some ((List.range n).flatMap g) := compB_some g _
theorem BM_map' {α β : Type} {L : List α} {g : α → List β} : compBM L (fun k => some (g k)) = some (L.flatMap g) := compB_some g _
theorem mkL_nil : mkL [] = some (.lst []) := mkL_ok (by simp)
end Py

set_option Elab.async false
set_option linter.all false
set_option maxRecDepth 100000
set_option maxHeartbeats 2000000
/-! what is asked of a block, for simp -/
namespace Py
open PySem L2 Px
/-- a value where a list of the frame's own may come -/
def pvo (G : Sig) : E → PEnv → Option (Slot × PEnv)
  | .var i, ρ => match getS ρ i with
    | some (.dat d) => some (.dat d, ρ)
    | some (.mo (.lst xs)) => some (.own xs, ρ.set i none)
    | _ => none
  | .call f as, ρ => (pxs G as ρ).bind fun ds => match callV G f ds with
    | .ok s => some (s, ρ)
    | .bad => none
  | .dsp false es, ρ => (pv G (.dsp false es) ρ).bind fun d => match d with
    | .lst xs => some (.own xs, ρ)
    | _ => none
  | .comp vs tg ik ies conds elt, ρ => (pv G (.comp vs tg ik ies conds elt) ρ).bind fun d => match d with
    | .lst xs => some (.own xs, ρ)
    | _ => none
  | .comp2 vs tg ik ies conds vs1 tg1 ik1 ies1 conds1 elt, ρ => (pv G (.comp2 vs tg ik ies conds vs1 tg1 ik1 ies1 conds1 elt) ρ).bind fun d => match d with
    | .lst xs => some (.own xs, ρ)
    | _ => none
  | .prim p as, ρ => (pv G (.prim p as) ρ).bind fun d => match freshP p, d with
    | true, .lst xs => some (.own xs, ρ)
    | _, d => some (.dat d, ρ)
  | .meth o m es, ρ => (pv G o ρ).bind fun d => (pvs G es ρ).bind fun ds => match methR G d m ds with
    | .ok s => some (s, ρ)
    | .bad => none
  | e, ρ => (pv G e ρ).map fun d => (.dat d, ρ)
theorem pvo_ok {G : Sig} {e : E} {ρ ρ1 : PEnv} {s : Slot} (h : pvo G e ρ = some (s, ρ1)) : evo G e ρ = .ok (s, ρ1) := by
  have gen : ∀ e : E, (∀ ρ, evo G e ρ = (ev G e ρ).bind fun q => .ok (.dat q.1, q.2)) → (pv G e ρ).map (fun d => (Slot.dat d, ρ)) = some (s, ρ1) → evo G e ρ = .ok (s, ρ1) := fun e h1 h2 => by
    obtain ⟨d, h3, h4⟩ := mapS h2
    cases h4
    rw [h1, pv_ok G e ρ d h3]; rfl
  have fin : ∀ (e : E) (f : D → Option (Slot × PEnv)) (f' : D × PEnv → Out (Slot × PEnv)), (pv G e ρ).bind f = some (s, ρ1) → (∀ d, f d = some (s, ρ1) → f' (d, ρ) = .ok (s, ρ1)) → (ev G e ρ).bind f' = .ok (s, ρ1) := fun e f f' h h3 => by
    obtain ⟨d, h1, h2⟩ := bindS h
    rw [pv_ok G e ρ d h1, Out.bind_okS]
    exact h3 d h2
  cases e with
  | var i =>
    have h : (match getS ρ i with | some (.dat d) => some (Slot.dat d, ρ) | some (.mo (.lst xs)) => some (Slot.own xs, ρ.set i none) | _ => none) = some (s, ρ1) := h
    show (match getS ρ i with | some (.dat d) => Out.ok (Slot.dat d, ρ) | some (.mo (.lst xs)) => .ok (Slot.own xs, ρ.set i none) | _ => .bad) = _
    cases hg : getS ρ i with
    | none => rw [hg] at h; cases h
    | some s =>
      rw [hg] at h
      cases s with
      | dat d => cases h; rfl
      | mo w => cases w with
        | lst xs => cases h; rfl
        | ins c ns xs => cases h
  | call f as =>
    obtain ⟨ds, h1, h2⟩ := bindS (show (pxs G as ρ).bind _ = _ from h)
    cases hs : callV G f ds with
    | ok s' =>
      rw [hs] at h2
      cases h2
      exact callR_vals (G := G) (f := f) (o := fun ρ => opnds G as ρ) (ρ := ρ) (pxs_ok G as ρ ds h1) hs
    | bad => rw [hs] at h2; cases h2
  | dsp b es =>
    cases b with
    | true => exact gen _ (fun _ => rfl) h
    | false =>
      exact fin _ _ _ h fun d h => by cases d <;> first | (cases h; rfl) | cases h
  | comp vs tg ik ies conds elt =>
    exact fin _ _ _ h fun d h => by cases d <;> first | (cases h; rfl) | cases h
  | comp2 vs tg ik ies conds vs1 tg1 ik1 ies1 conds1 elt =>
    exact fin _ _ _ h fun d h => by cases d <;> first | (cases h; rfl) | cases h
  | prim p as =>
    refine fin _ _ _ h fun d h => ?_
    cases hp : freshP p with
    | true => rw [hp] at h; cases d <;> (cases h; rfl)
    | false => rw [hp] at h; cases d <;> (cases h; rfl)
  | con d => exact gen _ (fun _ => rfl) h
  | bop c es => exact gen _ (fun _ => rfl) h
  | not a => exact gen _ (fun _ => rfl) h
  | ite c a b => exact gen _ (fun _ => rfl) h
  | pop i f => exact gen _ (fun _ => rfl) h
  | isi a ty => exact gen _ (fun _ => rfl) h
  | chn o p a b c => exact gen _ (fun _ => rfl) h
  | make c es => exact gen _ (fun _ => rfl) h
  | oeq n a b => exact gen _ (fun _ => rfl) h
  | isc a c => exact gen _ (fun _ => rfl) h
  | meth o m es =>
    obtain ⟨d, h1, h2⟩ := bindS (show (pv G o ρ).bind _ = _ from h)
    obtain ⟨ds, h3, h4⟩ := bindS h2
    show (ev G o ρ).bind _ = _
    rw [pv_ok G o ρ d h1, Out.bind_okS]
    show (evs G es ρ).bind _ = _
    rw [pvs_ok G es ρ ds h3, Out.bind_okS]
    cases hs : methR G d m ds with
    | ok s' =>
      rw [hs] at h4
      cases h4
      rfl
    | bad => rw [hs] at h4; cases h4
def pvc (G : Sig) (own : Bool) (e : E) (ρ : PEnv) : Option (Slot × PEnv) := match own with
  | true => pvo G e ρ
  | false => (pv G e ρ).map fun d => (.dat d, ρ)
theorem pvc_ok {G : Sig} {o : Bool} {e : E} {ρ ρ1 : PEnv} {s : Slot} (h : pvc G o e ρ = some (s, ρ1)) : evc G o e ρ = .ok (s, ρ1) := by
  cases o with
  | true => exact pvo_ok h
  | false =>
    obtain ⟨d, h3, h4⟩ := mapS h
    cases h4
    show (ev G e ρ).bind _ = _
    rw [pv_ok G e ρ d h3]; rfl
section
variable {G : Sig} {ρ : PEnv} {Q : Flw → PEnv → Prop} {ss : List S}
/-- what follows a block -/
def Nx (G : Sig) (ss : List S) (Q : Flw → PEnv → Prop) : Flw → PEnv → Prop := fun fl ρ' => match fl with
  | .nx => WSs G ss ρ' Q
  | f => Q f ρ'
theorem wc {s : S} (h : WS1 G s ρ (Nx G ss Q)) : WSs G (s :: ss) ρ Q := ws_cons (by
  obtain ⟨fl, ρ1, h1, h2⟩ := h
  refine ⟨fl, ρ1, h1, ?_⟩
  cases fl <;> exact h2)
theorem wp_set {own : Bool} {i : Nat} {e : E} (h : ∃ s ρ1, pvc G own e ρ = some (s, ρ1) ∧ WSs G ss (ρ1.set i (some s)) Q) : WSs G (.set own i e :: ss) ρ Q := by
  obtain ⟨s, ρ1, h1, h2⟩ := h
  refine wc ?_
  have := pvc_ok h1
  cases own with
  | true => exact ⟨.nx, _, by unfold ex; rw [show evo G e ρ = _ from this]; rfl, h2⟩
  | false =>
    obtain ⟨d, h3, h4⟩ := mapS h1
    cases h4
    exact ⟨.nx, _, by unfold ex; rw [pv_ok G e ρ d h3]; rfl, h2⟩
theorem wp_ret {e : E} (h : ∃ s ρ1, pvo G e ρ = some (s, ρ1) ∧ Q (.ret s) ρ1) : WSs G (.ret e :: ss) ρ Q := by
  obtain ⟨s, ρ1, h1, h2⟩ := h
  exact wc ⟨.ret s, ρ1, by unfold ex; rw [pvo_ok h1]; rfl, h2⟩
theorem wp_ite {c : T} {a b : List S} (h : ∃ t, pvT G c ρ = some t ∧ (t = true → WSs G a ρ (Nx G ss Q)) ∧ (t = false → WSs G b ρ (Nx G ss Q))) : WSs G (.ite c a b :: ss) ρ Q := by
  obtain ⟨t, h1, h2, h3⟩ := h
  exact wc (ws_ite (pvT_ok G c ρ t h1) h2 h3)
theorem wp_aug {i : Nat} {op : Operator} {e : E} (h : ∃ d c z, getS ρ i = some (.dat d) ∧ pv G e ρ = some c ∧ augF op d c = some z ∧ WSs G ss (ρ.set i (some (.dat z))) Q) : WSs G (.aug i op e :: ss) ρ Q := by
  obtain ⟨d, c, z, h1, h2, h3, h4⟩ := h
  exact wc ⟨.nx, _, by unfold ex; rw [h1]; simp only []; rw [pv_ok G e ρ c h2, Out.bind_okS, h3, Out.of_someS, Out.bind_okS], h4⟩
theorem wp_app {i : Nat} {e : E} (h : ∃ xs d, getS ρ i = some (.own xs) ∧ pv G e ρ = some d ∧ xs.length < lim ∧ WSs G ss (ρ.set i (some (.own (xs ++ [d])))) Q) : WSs G (.app i e :: ss) ρ Q := by
  obtain ⟨xs, d, h1, h2, h3, h4⟩ := h
  exact wc ⟨.nx, _, by unfold ex; rw [h1]; simp only [isOwn, isOwnL, if_true]; rw [pv_ok G e ρ d h2, Out.bind_okS, h1]; simp only []; rw [if_pos h3], h4⟩
theorem wp_seti {i : Nat} {ix e : E} (h : ∃ xs d j ys, pv G e ρ = some d ∧ getS ρ i = some (.own xs) ∧ pv G ix ρ = some (.int j) ∧ setAt xs j d = some ys ∧ WSs G ss (ρ.set i (some (.own ys))) Q) : WSs G (.seti i ix e :: ss) ρ Q := by
  obtain ⟨xs, d, j, ys, h1, h2, h3, h4, h5⟩ := h
  exact wc ⟨.nx, _, by unfold ex; rw [pv_ok G e ρ d h1, Out.bind_okS, h2]; simp only [isOwn, isOwnL, if_true]; rw [pv_ok G ix ρ _ h3, Out.bind_okS, h2]; simp only []; rw [h4, Out.of_someS, Out.bind_okS], h5⟩
theorem wp_upk {is : List Nat} {e : E} (h : ∃ d ρ2, pv G e ρ = some d ∧ setT ρ (true, is) d = some ρ2 ∧ WSs G ss ρ2 Q) : WSs G (.upk is e :: ss) ρ Q := by
  obtain ⟨d, ρ2, h1, h2, h3⟩ := h
  exact wc ⟨.nx, _, by unfold ex; rw [pv_ok G e ρ d h1, Out.bind_okS, h2, Out.of_someS, Out.bind_okS], h3⟩
theorem wp_par {oi oj : Bool} {i j : Nat} {a b : E} (h : ∃ s t ρ1 ρ2, pvc G oi a ρ = some (s, ρ1) ∧ pvc G oj b ρ1 = some (t, ρ2) ∧ WSs G ss ((ρ2.set i (some s)).set j (some t)) Q) : WSs G (.par oi i oj j a b :: ss) ρ Q := by
  obtain ⟨s, t, ρ1, ρ2, h1, h2, h3⟩ := h
  exact wc ⟨.nx, _, by unfold ex; rw [pvc_ok h1, Out.bind_okS, pvc_ok h2, Out.bind_okS], h3⟩
theorem wp_nil (h : Q .nx ρ) : WSs G [] ρ Q := ws_nil h
theorem wp_brk (h : Q .brk ρ) : WSs G (.brk :: ss) ρ Q := wc ⟨.brk, ρ, by unfold ex; rfl, h⟩
theorem wp_cnt (h : Q .cnt ρ) : WSs G (.cnt :: ss) ρ Q := wc ⟨.cnt, ρ, by unfold ex; rfl, h⟩
theorem wp_retN (h : Q (.ret (.dat .non)) ρ) : WSs G (.retN :: ss) ρ Q := wc ⟨.ret (.dat .non), ρ, by unfold ex; rfl, h⟩
theorem wp_nop (h : WSs G ss ρ Q) : WSs G (.nop :: ss) ρ Q := wc ⟨.nx, _, by unfold ex; rfl, h⟩
/-- a loop over what is told by φ -/
theorem wp_loop {α : Type} {tg : Bool × List Nat} {ik : IK} {ies : List E} {body : List S} (φ : α → D) (L : List α) (I : List α → PEnv → Prop) (h1 : ∃ ds, pvs G ies ρ = some ds ∧ itemsOf ρ ik ds = some (L.map φ)) (h3 : freeB ik (tg.2 ++ wrs body) = true)
    (h0 : I L ρ) (step : ∀ x xs ρ', I (x :: xs) ρ' → ∃ ρ2, setT ρ' tg (φ x) = some ρ2 ∧ WSs G body ρ2 fun fl ρ'' => sameB ik ρ ρ'' = true ∧ match fl with | .nx => I xs ρ'' | .cnt => I xs ρ'' | .brk => WSs G ss ρ'' Q | f => Q f ρ'')
    (q : ∀ ρ', I [] ρ' → WSs G ss ρ' Q) : WSs G (.loop tg ik ies body :: ss) ρ Q := by
  obtain ⟨ds, e1, e2⟩ := h1
  refine wc (ws_loop φ I (pvs_ok G ies ρ ds e1) e2 h3 h0 (fun x xs ρ' h => ?_) q)
  obtain ⟨ρ2, a1, fl, ρ3, a2, a3, a4⟩ := step x xs ρ' h
  refine ⟨ρ2, a1, fl, ρ3, a2, a3, ?_⟩
  cases fl <;> exact a4
theorem wp_while {c : T} {body : List S} (I : Nat → PEnv → Prop) (m : Nat) (hm : m < wlim) (h0 : I m ρ)
    (step : ∀ m ρ, I m ρ → ∃ t, pvT G c ρ = some t ∧ (t = false → WSs G ss ρ Q) ∧ (t = true → 0 < m ∧ WSs G body ρ fun fl ρ' => match fl with | .nx => ∃ m' < m, I m' ρ' | .cnt => ∃ m' < m, I m' ρ' | .brk => WSs G ss ρ' Q | f => Q f ρ')) :
    WSs G (.whil c body :: ss) ρ Q := by
  refine wc (ws_while I m hm h0 fun m ρ h => ?_)
  obtain ⟨t, a1, a2, a3⟩ := step m ρ h
  refine ⟨t, ρ, pvT_ok G c ρ t a1, a2, fun ht => ?_⟩
  obtain ⟨b1, fl, ρ', b2, b3⟩ := a3 ht
  refine ⟨b1, fl, ρ', b2, ?_⟩
  cases fl <;> exact b3
end
/-! ### blocks, as simp walks them -/
mutual
def WP1 (G : Sig) : S → PEnv → (Flw → PEnv → Prop) → Prop
  | .set own i e, ρ, K => ∃ s ρ1, pvc G own e ρ = some (s, ρ1) ∧ K .nx (ρ1.set i (some s))
  | .upk is e, ρ, K => ∃ d ρ2, pv G e ρ = some d ∧ setT ρ (true, is) d = some ρ2 ∧ K .nx ρ2
  | .par oi i oj j a b, ρ, K => ∃ s ρ1, pvc G oi a ρ = some (s, ρ1) ∧ ∃ t ρ2, pvc G oj b ρ1 = some (t, ρ2) ∧ K .nx ((ρ2.set i (some s)).set j (some t))
  | .aug i op e, ρ, K => ∃ d, getS ρ i = some (.dat d) ∧ ∃ c, pv G e ρ = some c ∧ ∃ z, augF op d c = some z ∧ K .nx (ρ.set i (some (.dat z)))
  | .seti i ix e, ρ, K => ∃ d, pv G e ρ = some d ∧ ∃ xs, getS ρ i = some (.own xs) ∧ ∃ j, pv G ix ρ = some (.int j) ∧ ∃ ys, setAt xs j d = some ys ∧ K .nx (ρ.set i (some (.own ys)))
  | .app i e, ρ, K => ∃ xs, getS ρ i = some (.own xs) ∧ ∃ d, pv G e ρ = some d ∧ xs.length < lim ∧ K .nx (ρ.set i (some (.own (xs ++ [d]))))
  | .ret e, ρ, K => ∃ s ρ1, pvo G e ρ = some (s, ρ1) ∧ K (.ret s) ρ1
  | .retN, ρ, K => K (.ret (.dat .non)) ρ
  | .ite c a b, ρ, K => ∃ t, pvT G c ρ = some t ∧ (t = true → WP G a ρ K) ∧ (t = false → WP G b ρ K)
  | .brk, ρ, K => K .brk ρ
  | .cnt, ρ, K => K .cnt ρ
  | .nop, ρ, K => K .nx ρ
  | .ext i e, ρ, K => isOwnL (getS ρ i) = true ∧ ∃ ys ρ1, pvo G e ρ = some (.own ys, ρ1) ∧ ∃ xs, getS ρ1 i = some (.own xs) ∧ xs.length + ys.length ≤ lim ∧ K .nx (ρ1.set i (some (.own (xs ++ ys))))
  | .junk i a b, ρ, K => ∃ k, pv G a ρ = some (.int k) ∧ ∃ d, pv G b ρ = some d ∧ K .nx (ρ.set i none)
  | s, ρ, K => WS1 G s ρ K
def WP (G : Sig) : List S → PEnv → (Flw → PEnv → Prop) → Prop
  | [], ρ, K => K .nx ρ
  | s :: ss, ρ, K => WP1 G s ρ fun fl ρ' => match fl with
    | .nx => WP G ss ρ' K
    | f => K f ρ'
end
mutual
theorem WP1_ok (G : Sig) : ∀ (s : S) (ρ : PEnv) (K : Flw → PEnv → Prop), WP1 G s ρ K → WS1 G s ρ K
  | .set own i e, ρ, K, h => by
    unfold WP1 at h
    obtain ⟨s, ρ1, h1, h2⟩ := h
    have := pvc_ok h1
    cases own with
    | true => exact ⟨.nx, _, by unfold ex; rw [show evo G e ρ = _ from this]; rfl, h2⟩
    | false =>
      obtain ⟨d, h3, h4⟩ := mapS h1
      cases h4
      exact ⟨.nx, _, by unfold ex; rw [pv_ok G e ρ d h3]; rfl, h2⟩
  | .upk is e, ρ, K, h => by
    unfold WP1 at h
    obtain ⟨d, ρ2, h1, h2, h3⟩ := h
    exact ⟨.nx, _, by unfold ex; rw [pv_ok G e ρ d h1, Out.bind_okS, h2, Out.of_someS, Out.bind_okS], h3⟩
  | .par oi i oj j a b, ρ, K, h => by
    unfold WP1 at h
    obtain ⟨s, ρ1, h1, t, ρ2, h2, h3⟩ := h
    exact ⟨.nx, _, by unfold ex; rw [pvc_ok h1, Out.bind_okS, pvc_ok h2, Out.bind_okS], h3⟩
  | .aug i op e, ρ, K, h => by
    unfold WP1 at h
    obtain ⟨d, h1, c, h2, z, h3, h4⟩ := h
    exact ⟨.nx, _, by unfold ex; rw [h1]; simp only []; rw [pv_ok G e ρ c h2, Out.bind_okS, h3, Out.of_someS, Out.bind_okS], h4⟩
  | .seti i ix e, ρ, K, h => by
    unfold WP1 at h
    obtain ⟨d, h1, xs, h2, j, h3, ys, h4, h5⟩ := h
    exact ⟨.nx, _, by unfold ex; rw [pv_ok G e ρ d h1, Out.bind_okS, h2]; simp only [isOwn, isOwnL, if_true]; rw [pv_ok G ix ρ _ h3, Out.bind_okS, h2]; simp only []; rw [h4, Out.of_someS, Out.bind_okS], h5⟩
  | .app i e, ρ, K, h => by
    unfold WP1 at h
    obtain ⟨xs, h1, d, h2, h3, h4⟩ := h
    exact ⟨.nx, _, by unfold ex; rw [h1]; simp only [isOwn, isOwnL, if_true]; rw [pv_ok G e ρ d h2, Out.bind_okS, h1]; simp only []; rw [if_pos h3], h4⟩
  | .ret e, ρ, K, h => by
    unfold WP1 at h
    obtain ⟨s, ρ1, h1, h2⟩ := h
    exact ⟨.ret s, ρ1, by unfold ex; rw [pvo_ok h1]; rfl, h2⟩
  | .retN, ρ, K, h => by unfold WP1 at h; exact ⟨_, _, by unfold ex; rfl, h⟩
  | .ite c a b, ρ, K, h => by
    unfold WP1 at h
    obtain ⟨t, h1, h2, h3⟩ := h
    exact ws_ite (pvT_ok G c ρ t h1) (fun e => WP_ok G a ρ K (h2 e)) (fun e => WP_ok G b ρ K (h3 e))
  | .brk, ρ, K, h => by unfold WP1 at h; exact ⟨_, _, by unfold ex; rfl, h⟩
  | .cnt, ρ, K, h => by unfold WP1 at h; exact ⟨_, _, by unfold ex; rfl, h⟩
  | .nop, ρ, K, h => by unfold WP1 at h; exact ⟨_, _, by unfold ex; rfl, h⟩
  | .drop e, ρ, K, h => by unfold WP1 at h; exact h
  | .loop tg ik ies b, ρ, K, h => by unfold WP1 at h; exact h
  | .whil c b, ρ, K, h => by unfold WP1 at h; exact h
  | .never, ρ, K, h => by unfold WP1 at h; exact h
  | .setf _ _ _, ρ, K, h => by unfold WP1 at h; exact h
  | .swp _ _ _ _ _, ρ, K, h => by unfold WP1 at h; exact h
  | .ext i e, ρ, K, h => by
    unfold WP1 at h
    obtain ⟨h0, ys, ρ1, h1, xs, h2, h3, h4⟩ := h
    refine ⟨.nx, _, ?_, h4⟩
    unfold ex
    rw [if_pos h0, pvo_ok h1, Out.bind_okS]
    simp only []
    rw [h2]
    simp only []
    rw [if_pos h3]
  | .junk i a b, ρ, K, h => by
    unfold WP1 at h
    obtain ⟨k, h1, d, h2, h3⟩ := h
    exact ⟨.nx, _, by unfold ex; rw [pv_ok G a ρ _ h1, Out.bind_okS, pv_ok G b ρ _ h2, Out.bind_okS], h3⟩
theorem WP_ok (G : Sig) : ∀ (ss : List S) (ρ : PEnv) (K : Flw → PEnv → Prop), WP G ss ρ K → WSs G ss ρ K
  | [], ρ, K, h => by unfold WP at h; exact ws_nil h
  | s :: ss, ρ, K, h => by
    unfold WP at h
    refine wc ?_
    obtain ⟨fl, ρ1, h1, h2⟩ := WP1_ok G s ρ _ h
    refine ⟨fl, ρ1, h1, ?_⟩
    cases fl with
    | nx => exact WP_ok G ss ρ1 K h2
    | brk => exact h2
    | cnt => exact h2
    | ret s => exact h2
end
theorem ws_mono {G : Sig} {s : S} {ρ : PEnv} {K K' : Flw → PEnv → Prop} (h : ∀ fl ρ', K fl ρ' → K' fl ρ') : WS1 G s ρ K → WS1 G s ρ K' := fun ⟨fl, ρ', a, b⟩ => ⟨fl, ρ', a, h _ _ b⟩
mutual
theorem WP1_mono {G : Sig} : ∀ (s : S) (ρ : PEnv) (K K' : Flw → PEnv → Prop), (∀ fl ρ', K fl ρ' → K' fl ρ') → WP1 G s ρ K → WP1 G s ρ K'
  | .set own i e, ρ, K, K', m, h => by
    unfold WP1 at h ⊢
    obtain ⟨s, ρ1, h1, h2⟩ := h
    exact ⟨s, ρ1, h1, m _ _ h2⟩
  | .upk is e, ρ, K, K', m, h => by
    unfold WP1 at h ⊢
    obtain ⟨d, ρ2, h1, h2, h3⟩ := h
    exact ⟨d, ρ2, h1, h2, m _ _ h3⟩
  | .par oi i oj j a b, ρ, K, K', m, h => by
    unfold WP1 at h ⊢
    obtain ⟨s, ρ1, h1, t, ρ2, h2, h3⟩ := h
    exact ⟨s, ρ1, h1, t, ρ2, h2, m _ _ h3⟩
  | .aug i op e, ρ, K, K', m, h => by
    unfold WP1 at h ⊢
    obtain ⟨d, h1, c, h2, z, h3, h4⟩ := h
    exact ⟨d, h1, c, h2, z, h3, m _ _ h4⟩
  | .seti i ix e, ρ, K, K', m, h => by
    unfold WP1 at h ⊢
    obtain ⟨d, h1, xs, h2, j, h3, ys, h4, h5⟩ := h
    exact ⟨d, h1, xs, h2, j, h3, ys, h4, m _ _ h5⟩
  | .app i e, ρ, K, K', m, h => by
    unfold WP1 at h ⊢
    obtain ⟨xs, h1, d, h2, h3, h4⟩ := h
    exact ⟨xs, h1, d, h2, h3, m _ _ h4⟩
  | .ret e, ρ, K, K', m, h => by
    unfold WP1 at h ⊢
    obtain ⟨s, ρ1, h1, h2⟩ := h
    exact ⟨s, ρ1, h1, m _ _ h2⟩
  | .retN, ρ, K, K', m, h => by unfold WP1 at h ⊢; exact m _ _ h
  | .ite c a b, ρ, K, K', m, h => by
    unfold WP1 at h ⊢
    obtain ⟨t, h1, h2, h3⟩ := h
    exact ⟨t, h1, fun e => WP_mono m a ρ (h2 e), fun e => WP_mono m b ρ (h3 e)⟩
  | .brk, ρ, K, K', m, h => by unfold WP1 at h ⊢; exact m _ _ h
  | .cnt, ρ, K, K', m, h => by unfold WP1 at h ⊢; exact m _ _ h
  | .nop, ρ, K, K', m, h => by unfold WP1 at h ⊢; exact m _ _ h
  | .drop e, ρ, K, K', m, h => by unfold WP1 at h ⊢; exact ws_mono m h
  | .loop tg ik ies b, ρ, K, K', m, h => by unfold WP1 at h ⊢; exact ws_mono m h
  | .whil c b, ρ, K, K', m, h => by unfold WP1 at h ⊢; exact ws_mono m h
  | .never, ρ, K, K', m, h => by unfold WP1 at h ⊢; exact ws_mono m h
  | .setf _ _ _, ρ, K, K', m, h => by unfold WP1 at h ⊢; exact ws_mono m h
  | .swp _ _ _ _ _, ρ, K, K', m, h => by unfold WP1 at h ⊢; exact ws_mono m h
  | .ext i e, ρ, K, K', m, h => by
    unfold WP1 at h ⊢
    obtain ⟨h0, ys, ρ1, h1, xs, h2, h3, h4⟩ := h
    exact ⟨h0, ys, ρ1, h1, xs, h2, h3, m _ _ h4⟩
  | .junk i a b, ρ, K, K', m, h => by
    unfold WP1 at h ⊢
    obtain ⟨k, h1, d, h2, h3⟩ := h
    exact ⟨k, h1, d, h2, m _ _ h3⟩
theorem WP_mono {G : Sig} {K K' : Flw → PEnv → Prop} (m : ∀ fl ρ', K fl ρ' → K' fl ρ') : ∀ (ss : List S) (ρ : PEnv), WP G ss ρ K → WP G ss ρ K'
  | [], ρ, h => by unfold WP at h ⊢; exact m _ _ h
  | s :: ss, ρ, h => by
    unfold WP at h ⊢
    refine WP1_mono s ρ _ _ (fun fl ρ' h => ?_) h
    cases fl with
    | nx => exact WP_mono m ss ρ' h
    | brk => exact m _ _ h
    | cnt => exact m _ _ h
    | ret s => exact m _ _ h
end
/-- what a def's end gives -/
def Fv : Flw → Option Slot
  | .nx => some (.dat .non)
  | .ret s => some s
  | _ => none
theorem callV_wp {ds : List Def} {k : Nat} {f : Str} {d : Def} {as : List D} {r : Slot} (hf : fnd ds f = some d) (hl : as.length = d.np ∧ d.np ≤ d.N.length)
    (h : WP (sigOf ds k) d.body ((as.map fun a => some (.dat a)) ++ List.replicate (d.N.length - as.length) none) fun fl _ => Fv fl = some r) : callV (sigOf ds (k + 1)) f as = .ok r := by
  refine callV_run hf hl ?_
  obtain ⟨fl, ρ', h1, h2⟩ := WP_ok _ _ _ _ h
  refine ⟨fl, ρ', h1, ?_⟩
  cases fl with
  | nx => exact (Option.some.inj h2).symm
  | ret s => exact (Option.some.inj h2).symm
  | brk => cases h2
  | cnt => cases h2
section
variable {G : Sig} {ρ : PEnv} {K : Flw → PEnv → Prop} {ss : List S}
theorem WP_nil : WP G [] ρ K = K .nx ρ := by rw [WP]
theorem WP_set {own : Bool} {i : Nat} {e : E} : WP G (.set own i e :: ss) ρ K = ∃ q, pvc G own e ρ = some q ∧ WP G ss (q.2.set i (some q.1)) K := by
  rw [WP, WP1]
  exact propext ⟨fun ⟨s, ρ1, a, b⟩ => ⟨(s, ρ1), a, b⟩, fun ⟨q, a, b⟩ => ⟨q.1, q.2, a, b⟩⟩
theorem WP_upk {is : List Nat} {e : E} : WP G (.upk is e :: ss) ρ K = ∃ d, pv G e ρ = some d ∧ ∃ ρ2, setT ρ (true, is) d = some ρ2 ∧ WP G ss ρ2 K := by
  rw [WP, WP1]
  exact propext ⟨fun ⟨d, ρ2, a, b, c⟩ => ⟨d, a, ρ2, b, c⟩, fun ⟨d, a, ρ2, b, c⟩ => ⟨d, ρ2, a, b, c⟩⟩
theorem WP_par {oi oj : Bool} {i j : Nat} {a b : E} : WP G (.par oi i oj j a b :: ss) ρ K = ∃ q, pvc G oi a ρ = some q ∧ ∃ r, pvc G oj b q.2 = some r ∧ WP G ss ((r.2.set i (some q.1)).set j (some r.1)) K := by
  rw [WP, WP1]
  exact propext ⟨fun ⟨s, ρ1, a, t, ρ2, b, c⟩ => ⟨(s, ρ1), a, (t, ρ2), b, c⟩, fun ⟨q, a, r, b, c⟩ => ⟨q.1, q.2, a, r.1, r.2, b, c⟩⟩
theorem WP_aug {i : Nat} {op : Operator} {e : E} : WP G (.aug i op e :: ss) ρ K = ∃ d, getS ρ i = some (.dat d) ∧ ∃ c, pv G e ρ = some c ∧ ∃ z, augF op d c = some z ∧ WP G ss (ρ.set i (some (.dat z))) K := by rw [WP, WP1]
theorem WP_seti {i : Nat} {ix e : E} : WP G (.seti i ix e :: ss) ρ K = ∃ d, pv G e ρ = some d ∧ ∃ xs, getS ρ i = some (.own xs) ∧ ∃ j, pv G ix ρ = some (.int j) ∧ ∃ ys, setAt xs j d = some ys ∧ WP G ss (ρ.set i (some (.own ys))) K := by rw [WP, WP1]
theorem WP_app {i : Nat} {e : E} : WP G (.app i e :: ss) ρ K = ∃ xs, getS ρ i = some (.own xs) ∧ ∃ d, pv G e ρ = some d ∧ xs.length < lim ∧ WP G ss (ρ.set i (some (.own (xs ++ [d])))) K := by rw [WP, WP1]
theorem WP_ext {i : Nat} {e : E} : WP G (.ext i e :: ss) ρ K = (isOwnL (getS ρ i) = true ∧ ∃ ys ρ1, pvo G e ρ = some (.own ys, ρ1) ∧ ∃ xs, getS ρ1 i = some (.own xs) ∧ xs.length + ys.length ≤ lim ∧ WP G ss (ρ1.set i (some (.own (xs ++ ys)))) K) := by rw [WP, WP1]
theorem WP_ret {e : E} : WP G (.ret e :: ss) ρ K = ∃ q, pvo G e ρ = some q ∧ K (.ret q.1) q.2 := by
  rw [WP, WP1]
  exact propext ⟨fun ⟨s, ρ1, a, b⟩ => ⟨(s, ρ1), a, b⟩, fun ⟨q, a, b⟩ => ⟨q.1, q.2, a, b⟩⟩
theorem WP_retN : WP G (.retN :: ss) ρ K = K (.ret (.dat .non)) ρ := by rw [WP, WP1]
theorem WP_ite {c : T} {a b : List S} : WP G (.ite c a b :: ss) ρ K = ∃ t, pvT G c ρ = some t ∧ (t = true → WP G a ρ fun fl ρ' => match fl with | .nx => WP G ss ρ' K | f => K f ρ') ∧ (t = false → WP G b ρ fun fl ρ' => match fl with | .nx => WP G ss ρ' K | f => K f ρ') := by rw [WP, WP1] <;> rfl
theorem WP_brk : WP G (.brk :: ss) ρ K = K .brk ρ := by rw [WP, WP1]
theorem WP_cnt : WP G (.cnt :: ss) ρ K = K .cnt ρ := by rw [WP, WP1]
theorem WP_nop : WP G (.nop :: ss) ρ K = WP G ss ρ K := by rw [WP, WP1]
/-- a loop -/
theorem WP_loop {α : Type} {tg : Bool × List Nat} {ik : IK} {ies : List E} {body : List S} (φ : α → D) (L : List α) (I : List α → PEnv → Prop) (h1 : ∃ ds, pvs G ies ρ = some ds ∧ itemsOf ρ ik ds = some (L.map φ)) (h3 : freeB ik (tg.2 ++ wrs body) = true)
    (h0 : I L ρ) (step : ∀ x xs ρ', I (x :: xs) ρ' → ∃ ρ2, setT ρ' tg (φ x) = some ρ2 ∧ WP G body ρ2 fun fl ρ'' => sameB ik ρ ρ'' = true ∧ match fl with | .nx => I xs ρ'' | .cnt => I xs ρ'' | .brk => WP G ss ρ'' K | f => K f ρ'')
    (q : ∀ ρ', I [] ρ' → WP G ss ρ' K) : WP G (.loop tg ik ies body :: ss) ρ K := by
  unfold WP
  unfold WP1
  obtain ⟨ds, e1, e2⟩ := h1
  refine ws_loop φ I (pvs_ok G ies ρ ds e1) e2 h3 h0 (fun x xs ρ' h => ?_) q
  obtain ⟨ρ2, a1, a2⟩ := step x xs ρ' h
  obtain ⟨fl, ρ3, b1, b2, b3⟩ := WP_ok _ _ _ _ a2
  refine ⟨ρ2, a1, fl, ρ3, b1, b2, ?_⟩
  cases fl <;> exact b3
/-- a loop over numbers, whose state is told by what has gone by -/
theorem WP_for {α : Type} {tg : Bool × List Nat} {ik : IK} {ies : List E} {body : List S} (φ : α → D) (L : List α) (J : Nat → PEnv → Prop) (h1 : ∃ ds, pvs G ies ρ = some ds ∧ itemsOf ρ ik ds = some (L.map φ)) (h3 : freeB ik (tg.2 ++ wrs body) = true)
    (h0 : J 0 ρ) (step : ∀ (i : Nat) (h : i < L.length) ρ', J i ρ' → ∃ ρ2, setT ρ' tg (φ L[i]) = some ρ2 ∧ WP G body ρ2 fun fl ρ'' => sameB ik ρ ρ'' = true ∧ match fl with | .nx => J (i + 1) ρ'' | .cnt => J (i + 1) ρ'' | .brk => WP G ss ρ'' K | f => K f ρ'')
    (q : ∀ ρ', J L.length ρ' → WP G ss ρ' K) : WP G (.loop tg ik ies body :: ss) ρ K := by
  refine WP_loop φ L (fun xs ρ' => ∃ i, i ≤ L.length ∧ xs = L.drop i ∧ J i ρ') h1 h3 ⟨0, Nat.zero_le _, rfl, h0⟩ (fun x xs ρ' h => ?_) (fun ρ' h => ?_)
  · obtain ⟨i, hi, e, j⟩ := h
    have hi' : i < L.length := by
      rcases Nat.lt_or_ge i L.length with c | c
      · exact c
      · rw [List.drop_eq_nil_of_le c] at e; cases e
    rw [List.drop_eq_getElem_cons hi'] at e
    injection e with e1 e2
    subst e1 e2
    obtain ⟨ρ2, a1, a2⟩ := step i hi' ρ' j
    refine ⟨ρ2, a1, ?_⟩
    refine WP_mono (fun fl ρ'' h => ?_) _ _ a2
    obtain ⟨b1, b2⟩ := h
    refine ⟨b1, ?_⟩
    cases fl with
    | nx => exact ⟨i + 1, hi', rfl, b2⟩
    | cnt => exact ⟨i + 1, hi', rfl, b2⟩
    | brk => exact b2
    | ret s => exact b2
  · obtain ⟨i, hi, e, j⟩ := h
    have : i = L.length := by
      have := congrArg List.length e
      simp at this; omega
    subst this
    exact q ρ' j
theorem WP_while {c : T} {body : List S} (I : Nat → PEnv → Prop) (m : Nat) (hm : m < wlim) (h0 : I m ρ)
    (step : ∀ m ρ, I m ρ → ∃ t, pvT G c ρ = some t ∧ (t = false → WP G ss ρ K) ∧ (t = true → 0 < m ∧ WP G body ρ fun fl ρ' => match fl with | .nx => ∃ m' < m, I m' ρ' | .cnt => ∃ m' < m, I m' ρ' | .brk => WP G ss ρ' K | f => K f ρ')) :
    WP G (.whil c body :: ss) ρ K := by
  unfold WP
  unfold WP1
  refine ws_while I m hm h0 fun m ρ h => ?_
  obtain ⟨t, a1, a2, a3⟩ := step m ρ h
  refine ⟨t, ρ, pvT_ok G c ρ t a1, a2, fun ht => ?_⟩
  obtain ⟨b1, b2⟩ := a3 ht
  obtain ⟨fl, ρ', b3, b4⟩ := WP_ok _ _ _ _ b2
  refine ⟨b1, fl, ρ', b3, ?_⟩
  cases fl <;> exact b4
end
/-! ### tuples and lists of numbers, of words -/
def I (w : List Int) : List D := w.map .int
def WW (ws : List (List Int)) : List D := ws.map fun w => .tup (I w)
def B (bs : List Bool) : List D := bs.map .bl
@[simp] theorem I_len (w : List Int) : (I w).length = w.length := List.length_map ..
@[simp] theorem WW_len (w : List (List Int)) : (WW w).length = w.length := List.length_map ..
@[simp] theorem I_nil : I [] = [] := rfl
theorem I_cons (x : Int) (w : List Int) : I (x :: w) = .int x :: I w := rfl
theorem I_one (x : Int) : [D.int x] = I [x] := rfl
@[simp] theorem I_app (v w : List Int) : I v ++ I w = I (v ++ w) := (List.map_append ..).symm
@[simp] theorem WW_app (v w : List (List Int)) : WW v ++ WW w = WW (v ++ w) := (List.map_append ..).symm
@[simp] theorem I_snoc (w : List Int) (x : Int) : I w ++ [.int x] = I (w ++ [x]) := I_app w [x]
@[simp] theorem WW_snoc (w : List (List Int)) (x : List Int) : WW w ++ [.tup (I x)] = WW (w ++ [x]) := WW_app w [x]
theorem I_map {α : Type} (f : α → Int) (L : List α) : L.map (fun x => D.int (f x)) = I (L.map f) := by
  unfold I; rw [List.map_map]; rfl
theorem WW_map {α : Type} (f : α → List Int) (L : List α) : L.map (fun x => D.tup (I (f x))) = WW (L.map f) := by
  unfold WW; rw [List.map_map]; rfl
theorem B_map {α : Type} (f : α → Bool) (L : List α) : L.map (fun x => D.bl (f x)) = B (L.map f) := by
  unfold B; rw [List.map_map]; rfl
theorem I_rev (w : List Int) : (I w).reverse = I w.reverse := (List.map_reverse ..).symm
theorem I_take (w : List Int) (n : Nat) : (I w).take n = I (w.take n) := (List.map_take ..).symm
theorem I_drop (w : List Int) (n : Nat) : (I w).drop n = I (w.drop n) := (List.map_drop ..).symm
theorem I_empty (w : List Int) : (I w).isEmpty = w.isEmpty := by cases w <;> rfl
theorem intsOf_I (w : List Int) : intsOf (I w) = some w := by
  have := intsOf_map (fun x : Int => x) w
  simpa [I] using this
theorem blsOf_B (w : List Bool) : blsOf (B w) = some w := by
  have := blsOf_map (fun x : Bool => x) w
  simpa [B] using this
/-- an item, by its number -/
def nth {α : Type} [Inhabited α] (l : List α) (k : Nat) : α := l.getD k default
theorem nth_lt {α : Type} [Inhabited α] {l : List α} {k : Nat} (h : k < l.length) : nth l k = l[k] := by
  unfold nth; rw [List.getD_eq_getElem?_getD, List.getElem?_eq_getElem h]; rfl
theorem at_map {α : Type} [Inhabited α] (f : α → D) {l : List α} {i : Int} (h0 : 0 ≤ i) (h : i < l.length) : atI (l.map f) i = some (f (nth l i.toNat)) := by
  obtain ⟨k, rfl⟩ : ∃ k : Nat, i = (k : Int) := ⟨i.toNat, by omega⟩
  have h : k < l.length := by omega
  refine atI_nat ?_
  rw [List.getElem?_map, List.getElem?_eq_getElem h]
  show some (f l[k]) = _
  rw [Int.toNat_natCast, nth_lt h]
theorem at_I {w : List Int} {i : Int} (h0 : 0 ≤ i) (h : i < w.length) : atI (I w) i = some (.int (nth w i.toNat)) := at_map .int h0 h
theorem at_WW {w : List (List Int)} {i : Int} (h0 : 0 ≤ i) (h : i < w.length) : atI (WW w) i = some (.tup (I (nth w i.toNat))) := at_map _ h0 h
theorem at_neg1 {α : Type} [Inhabited α] (f : α → D) {l : List α} (h : l ≠ []) : atI (l.map f) (-1) = some (f (nth l (l.length - 1))) := by
  have e : l = l.dropLast ++ [l.getLast h] := (List.dropLast_concat_getLast h).symm
  have hl : 0 < l.length := List.length_pos_iff.mpr h
  have : nth l (l.length - 1) = l.getLast h := by
    rw [nth_lt (by omega), List.getLast_eq_getElem]
  rw [this]
  generalize l.getLast h = y at e
  rw [e, List.map_append]
  exact atI_last _ _
/-! ### slices -/
theorem sIx_lo {n : Nat} {i : Int} (h0 : 0 ≤ i) : HT.sIx n 0 (some i) = min i.toNat n := by
  obtain ⟨k, rfl⟩ : ∃ k : Nat, i = (k : Int) := ⟨i.toNat, by omega⟩
  rw [Int.toNat_natCast]
  exact HT.sIx_nat _ _ _
theorem sIx_hi {n : Nat} {i : Int} (h0 : 0 ≤ i) : HT.sIx n n (some i) = min i.toNat n := by
  obtain ⟨k, rfl⟩ : ∃ k : Nat, i = (k : Int) := ⟨i.toNat, by omega⟩
  rw [Int.toNat_natCast]
  exact HT.sIx_nat _ _ _
theorem cut_lo {α : Type} (f : α → D) (w : List α) {i : Int} (h0 : 0 ≤ i) : cutL (w.map f) (some i) none = (w.drop i.toNat).map f := by
  unfold cutL
  rw [List.length_map, sIx_lo h0]
  show ((w.map f).drop (min i.toNat w.length)).take (w.length - min i.toNat w.length) = _
  rw [← List.map_drop, ← List.map_take]
  congr 1
  rw [List.take_of_length_le (by simp)]
  by_cases c : i.toNat ≤ w.length
  · rw [Nat.min_eq_left c]
  · rw [Nat.min_eq_right (by omega), List.drop_of_length_le (by omega), List.drop_of_length_le (by omega)]
theorem cut_hi {α : Type} (f : α → D) (w : List α) {i : Int} (h0 : 0 ≤ i) : cutL (w.map f) none (some i) = (w.take i.toNat).map f := by
  unfold cutL
  rw [List.length_map, sIx_hi h0]
  show ((w.map f).drop 0).take (min i.toNat w.length - 0) = _
  rw [List.drop_zero, Nat.sub_zero, ← List.map_take]
  congr 1
  by_cases c : i.toNat ≤ w.length
  · rw [Nat.min_eq_left c]
  · rw [Nat.min_eq_right (by omega), List.take_of_length_le (Nat.le_refl _), List.take_of_length_le (by omega)]
theorem cut_both {α : Type} (f : α → D) (w : List α) {i j : Int} (h0 : 0 ≤ i) (h1 : 0 ≤ j) : cutL (w.map f) (some i) (some j) = ((w.drop i.toNat).take (j.toNat - i.toNat)).map f := by
  unfold cutL
  rw [List.length_map, sIx_lo h0, sIx_hi h1, ← List.map_drop, ← List.map_take]
  congr 1
  by_cases c : i.toNat ≤ w.length
  · rw [Nat.min_eq_left c]
    by_cases c2 : j.toNat ≤ w.length
    · rw [Nat.min_eq_left c2]
    · rw [Nat.min_eq_right (by omega), List.take_of_length_le (by simp), List.take_of_length_le (by rw [List.length_drop]; omega)]
  · rw [Nat.min_eq_right (a := i.toNat) (by omega), List.drop_of_length_le (by omega), List.drop_of_length_le (by omega)]
    simp
theorem I_cut_lo (w : List Int) {i : Int} (h0 : 0 ≤ i) : cutL (I w) (some i) none = I (w.drop i.toNat) := cut_lo _ w h0
theorem I_cut_hi (w : List Int) {i : Int} (h0 : 0 ≤ i) : cutL (I w) none (some i) = I (w.take i.toNat) := cut_hi _ w h0
theorem I_cut (w : List Int) {i j : Int} (h0 : 0 ≤ i) (h1 : 0 ≤ j) : cutL (I w) (some i) (some j) = I ((w.drop i.toNat).take (j.toNat - i.toNat)) := cut_both _ w h0 h1
/-! ### repeated -/
theorem rep_map {α : Type} (f : α → D) (w : List α) (k : Int) : repL (w.map f) k = ((List.replicate k.toNat w).flatten).map f := by
  unfold repL
  generalize k.toNat = n
  induction n with
  | zero => rfl
  | succ n ih => rw [List.replicate_succ, List.replicate_succ, List.flatten_cons, List.flatten_cons, List.map_append, ih]
def rep {α : Type} (n : Nat) (w : List α) : List α := (List.replicate n w).flatten
theorem I_rep (w : List Int) (k : Int) : repL (I w) k = I (rep k.toNat w) := rep_map _ w k
/-! ### equal, ordered -/
theorem pl_I {n : Nat} {w : List Int} (h : w.length < lim) : Pl (n + 2) (.tup (I w)) := ⟨by simpa using h, fun x hx => by
  obtain ⟨j, _, rfl⟩ := List.mem_map.mp hx
  trivial⟩
theorem pl_IL {n : Nat} {w : List Int} (h : w.length < lim) : Pl (n + 2) (.lst (I w)) := ⟨by simpa using h, fun x hx => by
  obtain ⟨j, _, rfl⟩ := List.mem_map.mp hx
  trivial⟩
theorem pl_WW {n : Nat} {w : List (List Int)} (h : w.length < lim) (h2 : ∀ x ∈ w, x.length < lim) : Pl (n + 3) (.lst (WW w)) := ⟨by simpa using h, fun x hx => by
  obtain ⟨j, hj, rfl⟩ := List.mem_map.mp hx
  exact pl_I (h2 j hj)⟩
theorem eqvI : ∀ v w : List Int, PyData.eqvAll (D.py.pyAll (I v)) (D.py.pyAll (I w)) = decide (v = w)
  | [], [] => rfl
  | [], y :: ys => by
    show false = _
    simp
  | x :: xs, [] => by
    show false = _
    simp
  | x :: xs, y :: ys => by
    show ((x == y) && PyData.eqvAll (D.py.pyAll (I xs)) (D.py.pyAll (I ys))) = _
    rw [eqvI xs ys]
    by_cases c : x = y <;> by_cases c2 : xs = ys <;> simp [c, c2]
theorem eqF_T {v w : List Int} (hv : v.length < lim) (hw : w.length < lim) : eqF (.tup (I v)) (.tup (I w)) = some (decide (v = w)) := by
  unfold eqF
  rw [if_pos ⟨shaped_ok (pl_I (n := 0) hv) (by decide), shaped_ok (pl_I (n := 0) hw) (by decide)⟩]
  exact congrArg some (eqvI v w)
theorem eqF_L {v w : List Int} (hv : v.length < lim) (hw : w.length < lim) : eqF (.lst (I v)) (.lst (I w)) = some (decide (v = w)) := by
  unfold eqF
  rw [if_pos ⟨shaped_ok (pl_IL (n := 0) hv) (by decide), shaped_ok (pl_IL (n := 0) hw) (by decide)⟩]
  exact congrArg some (eqvI v w)
theorem lexI : ∀ v w : List Int, PyProof.Rows.lexLt PyProof.Rows.itemOrd (PySem.W.keyToksAll (D.py.pyAll (I v))) (PySem.W.keyToksAll (D.py.pyAll (I w))) = decide (v < w) := by
  intro v w
  have : ∀ l : List Int, D.py.pyAll (I l) = l.map PyData.int := by
    intro l
    induction l with
    | nil => rfl
    | cons x l ih => show PyData.int x :: D.py.pyAll (I l) = _; rw [ih]; rfl
  rw [this, this]
  exact PySem.W.dataLt_ints v w
theorem datLt_T (v w : List Int) : datLt (.tup (I v)) (.tup (I w)) = decide (v < w) := (PySem.W.dataLt_tuple _ _).trans (lexI v w)
/-! ### primitives, for simp -/
section
variable {i j : Int} {v w : List Int} {a b : List (List Int)} {xs ys : List D}
theorem p_add : primF (.bin .Add) [.int i, .int j] = some (.int (i + j)) := rfl
theorem p_sub : primF (.bin .Sub) [.int i, .int j] = some (.int (i - j)) := rfl
theorem p_mul (h1 : -4611686018427387904 ≤ i) (h2 : i ≤ 4611686018427387904) (h3 : -4611686018427387904 ≤ j) (h4 : j ≤ 4611686018427387904) : primF (.bin .Mult) [.int i, .int j] = some (.int (i * j)) := by
  show (binI .Mult i j).map D.int = _
  rw [mulI (a := 63) (b := 63) (by omega) (by omega) (by decide) (by decide) (by decide)]; rfl
theorem p_fd (h : 0 < j) (h2 : j < 1073741824) : primF (.bin .FloorDiv) [.int i, .int j] = some (.int (i / j)) := by
  show (binI .FloorDiv i j).map D.int = _
  rw [fdI h h2]; rfl
theorem p_md (h : 0 < j) : primF (.bin .Mod) [.int i, .int j] = some (.int (i % j)) := by
  show (binI .Mod i j).map D.int = _
  rw [mdI h]; rfl
theorem p_addT (h : xs.length + ys.length ≤ 1000000) : primF (.bin .Add) [.tup xs, .tup ys] = some (.tup (xs ++ ys)) := if_pos ⟨rfl, show _ ≤ 16777216 by omega⟩
theorem p_addL (h : xs.length + ys.length ≤ 1000000) : primF (.bin .Add) [.lst xs, .lst ys] = some (.lst (xs ++ ys)) := if_pos ⟨rfl, show _ ≤ 16777216 by omega⟩
theorem p_mulT (h : -1000 ≤ i) (h1 : i ≤ 1000) (h2 : xs.length ≤ 1000) : primF (.bin .Mult) [.tup xs, .int i] = some (.tup (repL xs i)) := if_pos ⟨rfl, h, h1, h2⟩
theorem p_mulL (h : -1000 ≤ i) (h1 : i ≤ 1000) (h2 : xs.length ≤ 1000) : primF (.bin .Mult) [.lst xs, .int i] = some (.lst (repL xs i)) := if_pos ⟨rfl, by omega, by omega, by
  have : xs.length * i.toNat ≤ 1000 * 1000 := Nat.mul_le_mul h2 (by omega)
  show _ ≤ 16777216
  omega⟩
theorem p_neg : primF .neg [.int i] = some (.int (-i)) := rfl
theorem p_eq : primF (.cmp .Eq) [.int i, .int j] = some (.bl (decide (i = j))) := by
  simp only [primF, cmpF, eqF_int, Option.map_some]
theorem p_ne : primF (.cmp .NotEq) [.int i, .int j] = some (.bl (!decide (i = j))) := by
  simp only [primF, cmpF, eqF_int, Option.map_some]
theorem p_eqb {b c : Bool} : primF (.cmp .Eq) [.bl b, .bl c] = some (.bl (decide (b = c))) := by
  simp only [primF, cmpF, eqF_bl, Option.map_some]
theorem p_neb {b c : Bool} : primF (.cmp .NotEq) [.bl b, .bl c] = some (.bl (!decide (b = c))) := by
  simp only [primF, cmpF, eqF_bl, Option.map_some]
theorem p_lt : primF (.cmp .Lt) [.int i, .int j] = some (.bl (decide (i < j))) := rfl
theorem p_le : primF (.cmp .LtE) [.int i, .int j] = some (.bl (decide (i ≤ j))) := rfl
theorem p_gt : primF (.cmp .Gt) [.int i, .int j] = some (.bl (decide (j < i))) := rfl
theorem p_ge : primF (.cmp .GtE) [.int i, .int j] = some (.bl (decide (j ≤ i))) := rfl
theorem p_eqT (hv : v.length < 1000000) (hw : w.length < 1000000) : primF (.cmp .Eq) [.tup (I v), .tup (I w)] = some (.bl (decide (v = w))) := by
  show (eqF _ _).map D.bl = _
  rw [eqF_T (show _ < 16777216 by omega) (show _ < 16777216 by omega)]; rfl
theorem p_neT (hv : v.length < 1000000) (hw : w.length < 1000000) : primF (.cmp .NotEq) [.tup (I v), .tup (I w)] = some (.bl (!decide (v = w))) := by
  show ((eqF _ _).map (!·)).map D.bl = _
  rw [eqF_T (show _ < 16777216 by omega) (show _ < 16777216 by omega)]; rfl
theorem p_eqT0 (hv : v.length < 1000000) : primF (.cmp .Eq) [.tup (I v), .tup []] = some (.bl (decide (v = []))) := p_eqT (w := []) hv (by simp)
theorem p_neT0 (hv : v.length < 1000000) : primF (.cmp .NotEq) [.tup (I v), .tup []] = some (.bl (!decide (v = []))) := p_neT (w := []) hv (by simp)
theorem p_eqT00 : primF (.cmp .Eq) [.tup [], .tup []] = some (.bl true) := p_eqT (v := []) (w := []) (by simp) (by simp)
theorem p_neT00 : primF (.cmp .NotEq) [.tup [], .tup []] = some (.bl false) := p_neT (v := []) (w := []) (by simp) (by simp)
theorem p_eqL00 : primF (.cmp .Eq) [.lst [], .lst []] = some (.bl true) := by
  show (eqF (.lst []) (.lst [])).map D.bl = _
  rw [eqF_nil]; rfl
theorem p_neL00 : primF (.cmp .NotEq) [.lst [], .lst []] = some (.bl false) := by
  show ((eqF (.lst []) (.lst [])).map (!·)).map D.bl = _
  rw [eqF_nil]; rfl
theorem p_eqL (hv : v.length < 1000000) (hw : w.length < 1000000) : primF (.cmp .Eq) [.lst (I v), .lst (I w)] = some (.bl (decide (v = w))) := by
  show (eqF _ _).map D.bl = _
  rw [eqF_L (show _ < 16777216 by omega) (show _ < 16777216 by omega)]; rfl
theorem p_neL (hv : v.length < 1000000) (hw : w.length < 1000000) : primF (.cmp .NotEq) [.lst (I v), .lst (I w)] = some (.bl (!decide (v = w))) := by
  show ((eqF _ _).map (!·)).map D.bl = _
  rw [eqF_L (show _ < 16777216 by omega) (show _ < 16777216 by omega)]; rfl
theorem p_eqL0 (hv : v.length < 1000000) : primF (.cmp .Eq) [.lst (I v), .lst []] = some (.bl (decide (v = []))) := p_eqL (w := []) hv (by simp)
theorem p_neL0 (hv : v.length < 1000000) : primF (.cmp .NotEq) [.lst (I v), .lst []] = some (.bl (!decide (v = []))) := p_neL (w := []) hv (by simp)
theorem p_ixT (h0 : 0 ≤ i) (h : i < w.length) : primF .ix [.tup (I w), .int i] = some (.int (nth w i.toNat)) := at_I h0 h
theorem p_ixL (h0 : 0 ≤ i) (h : i < w.length) : primF .ix [.lst (I w), .int i] = some (.int (nth w i.toNat)) := at_I h0 h
theorem p_ixW (h0 : 0 ≤ i) (h : i < a.length) : primF .ix [.lst (WW a), .int i] = some (.tup (I (nth a i.toNat))) := at_WW h0 h
theorem p_ixWT (h0 : 0 ≤ i) (h : i < a.length) : primF .ix [.tup (WW a), .int i] = some (.tup (I (nth a i.toNat))) := at_WW h0 h
theorem p_loT (h0 : 0 ≤ i) : primF (.sl true false) [.tup (I w), .int i] = some (.tup (I (w.drop i.toNat))) := congrArg (fun x => some (D.tup x)) (I_cut_lo w h0)
theorem p_hiT (h0 : 0 ≤ i) : primF (.sl false true) [.tup (I w), .int i] = some (.tup (I (w.take i.toNat))) := congrArg (fun x => some (D.tup x)) (I_cut_hi w h0)
theorem p_slT (h0 : 0 ≤ i) (h1 : 0 ≤ j) : primF (.sl true true) [.tup (I w), .int i, .int j] = some (.tup (I ((w.drop i.toNat).take (j.toNat - i.toNat)))) := congrArg (fun x => some (D.tup x)) (I_cut w h0 h1)
theorem p_loL (h0 : 0 ≤ i) : primF (.sl true false) [.lst (I w), .int i] = some (.lst (I (w.drop i.toNat))) := congrArg (fun x => some (D.lst x)) (I_cut_lo w h0)
theorem p_hiL (h0 : 0 ≤ i) : primF (.sl false true) [.lst (I w), .int i] = some (.lst (I (w.take i.toNat))) := congrArg (fun x => some (D.lst x)) (I_cut_hi w h0)
theorem p_slL (h0 : 0 ≤ i) (h1 : 0 ≤ j) : primF (.sl true true) [.lst (I w), .int i, .int j] = some (.lst (I ((w.drop i.toNat).take (j.toNat - i.toNat)))) := congrArg (fun x => some (D.lst x)) (I_cut w h0 h1)
theorem p_lenT : primF (.bi .len) [.tup xs] = some (.int xs.length) := rfl
theorem p_lenL : primF (.bi .len) [.lst xs] = some (.int xs.length) := rfl
theorem p_tupT : primF (.bi .tuple) [.tup xs] = some (.tup xs) := rfl
theorem p_tupL : primF (.bi .tuple) [.lst xs] = some (.tup xs) := rfl
theorem p_lstT : primF (.bi .list) [.tup xs] = some (.lst xs) := rfl
theorem p_lstL : primF (.bi .list) [.lst xs] = some (.lst xs) := rfl
theorem p_sum : primF (.bi .sum) [.lst (I w)] = some (.int w.sum) := by
  show (intsOf (I w)).map _ = _
  rw [intsOf_I]; rfl
theorem p_all {bs : List Bool} : primF (.bi .all) [.lst (B bs)] = some (.bl (bs.all id)) := by
  show (blsOf (B bs)).map _ = _
  rw [blsOf_B]; rfl
theorem p_any {bs : List Bool} : primF (.bi .any) [.lst (B bs)] = some (.bl (bs.any id)) := by
  show (blsOf (B bs)).map _ = _
  rw [blsOf_B]; rfl
theorem p_max2 : primF (.bi .max) [.int i, .int j] = some (.int (if j > i then j else i)) := rfl
theorem p_min2 : primF (.bi .min) [.int i, .int j] = some (.int (if j < i then j else i)) := rfl
theorem p_abs : primF (.bi .abs) [.int i] = some (.int (if i < 0 then -i else i)) := rfl
theorem p_int : primF (.bi .int) [.int i] = some (.int i) := rfl
theorem p_intb {b : Bool} : primF (.bi .int) [.bl b] = some (.int (if b then 1 else 0)) := rfl
theorem p_trev : primF .trev [.lst xs] = some (.tup xs.reverse) := rfl
theorem t_bl {b : Bool} : truD (.bl b) = some b := rfl
theorem t_int : truD (.int i) = some (i != 0) := rfl
theorem t_non : truD .non = some false := rfl
theorem t_tup : truD (.tup xs) = some (!xs.isEmpty) := rfl
theorem t_lst : truD (.lst xs) = some (!xs.isEmpty) := rfl
theorem rng1 (h : -1000000000000 ≤ i) (h2 : i ≤ 1000000000000) : rngOf [.int i] = some ((List.range i.toNat).map fun k => .int (k : Int)) := by
  show (if okRng i then some (rngItems 0 i) else none) = _
  rw [if_pos (by simp [okRng]; omega)]
  unfold rngItems
  simp
theorem rng2 (h : -1000000000000 ≤ i) (h2 : i ≤ 1000000000000) (h3 : -1000000000000 ≤ j) (h4 : j ≤ 1000000000000) : rngOf [.int i, .int j] = some ((List.range (j - i).toNat).map fun k => .int (i + (k : Int))) := by
  show (if okRng i && okRng j then some (rngItems i j) else none) = _
  rw [if_pos (by simp [okRng]; omega)]
  rfl
theorem compQ_I {β : Type} {c : D → Option Bool} {e : D → Option β} : compQ c e (I w) = compQ (fun x => c (.int x)) (fun x => e (.int x)) w := compQ_map _ _
theorem compQ_WW {β : Type} {c : D → Option Bool} {e : D → Option β} : compQ c e (WW a) = compQ (fun x => c (.tup (I x))) (fun x => e (.tup (I x))) a := compQ_map _ _
theorem compB_I {β : Type} {f : D → Option (List β)} : compB f (I w) = compB (fun x => f (.int x)) w := compB_map _ _
theorem compB_WW {β : Type} {f : D → Option (List β)} : compB f (WW a) = compB (fun x => f (.tup (I x))) a := compB_map _ _
theorem flat_WW {α : Type} (f : α → List (List Int)) (L : List α) : L.flatMap (fun x => WW (f x)) = WW (L.flatMap f) := by
  induction L with
  | nil => rfl
  | cons x L ih => rw [List.flatMap_cons, List.flatMap_cons, ih, WW_app]
theorem flat_I {α : Type} (f : α → List Int) (L : List α) : L.flatMap (fun x => I (f x)) = I (L.flatMap f) := by
  induction L with
  | nil => rfl
  | cons x L ih => rw [List.flatMap_cons, List.flatMap_cons, ih, I_app]
theorem mkL_I {w : List Int} (h : w.length < 1000000) : mkL (I w) = some (.lst (I w)) := mkL_ok (by simpa using h)
theorem mkL_WW {w : List (List Int)} (h : w.length < 1000000) : mkL (WW w) = some (.lst (WW w)) := mkL_ok (by simpa using h)
theorem mkL_Ifm {α : Type} {L : List α} {p : α → Bool} {g : α → Int} (h : L.length < 1000000) : mkL (I ((L.filter p).map g)) = some (.lst (I ((L.filter p).map g))) := mkL_I (by
  have := List.length_filter_le p L
  rw [List.length_map]; omega)
theorem mkL_WWfm {α : Type} {L : List α} {p : α → Bool} {g : α → List Int} (h : L.length < 1000000) : mkL (WW ((L.filter p).map g)) = some (.lst (WW ((L.filter p).map g))) := mkL_WW (by
  have := List.length_filter_le p L
  rw [List.length_map]; omega)
theorem mkL_WWf {L : List (List Int)} {p : List Int → Bool} (h : L.length < 1000000) : mkL (WW (L.filter p)) = some (.lst (WW (L.filter p))) := mkL_WW (by
  have := List.length_filter_le p L
  omega)
theorem mkL_B {w : List Bool} (h : w.length < 1000000) : mkL (B w) = some (.lst (B w)) := mkL_ok (by unfold B; simpa using h)
theorem map_tupI {L : List (List Int)} : L.map (fun x => D.tup (I x)) = WW L := rfl
theorem map_int {L : List Int} : L.map (fun x => D.int x) = I L := rfl
theorem map_bl {L : List Bool} : L.map (fun x => D.bl x) = B L := rfl
theorem I_lit0 : D.tup [] = D.tup (I []) := rfl
end
theorem tn_add (a b : Nat) : ((a : Int) + (b : Int)).toNat = a + b := by omega
theorem tn_sub (a b : Nat) : ((a : Int) - (b : Int)).toNat = a - b := by omega
theorem tn_add1 (a : Nat) : ((a : Int) + 1).toNat = a + 1 := by omega
theorem tn_1add (a : Nat) : (1 + (a : Int)).toNat = a + 1 := by omega
end Py

set_option Elab.async false
set_option linter.all false
set_option maxRecDepth 100000
set_option maxHeartbeats 2000000
/-! more primitives for simp: the least, the greatest, augmented stores -/
namespace Py
open PySem L2 Px
theorem pyAll_I : ∀ v : List Int, D.py.pyAll (I v) = v.map PyData.int
  | [] => rfl
  | x :: v => by show PyData.int x :: D.py.pyAll (I v) = _; rw [pyAll_I v]; rfl
theorem alike_WW {T : List (List Int)} (h : ∀ x ∈ T, x.length < 1000000) : alikeB (WW T) = true := by
  unfold alikeB
  simp only [Bool.and_eq_true, List.all_eq_true, decide_eq_true_eq]
  refine ⟨⟨fun a ha b hb => ?_, fun a ha => ?_⟩, ?_⟩
  · obtain ⟨v, _, rfl⟩ := List.mem_map.mp ha
    obtain ⟨w, _, rfl⟩ := List.mem_map.mp hb
    show PySem.W.alike (.tuple (D.py.pyAll (I v))) (.tuple (D.py.pyAll (I w))) = true
    rw [pyAll_I, pyAll_I]
    simp only [PySem.W.alike]
    exact PySem.W.alike_ints v w
  · obtain ⟨v, _, rfl⟩ := List.mem_map.mp ha
    rfl
  · have := (pyAll_ok (n := 2) (WW T) fun x hx => by
      obtain ⟨v, hv, rfl⟩ := List.mem_map.mp hx
      exact py_ok 2 _ (pl_I (n := 0) (show _ < 16777216 by have := h v hv; omega))).2
    omega
def minW (x : List Int) (xs : List (List Int)) : List Int := xs.foldl (fun a y => if y < a then y else a) x
def maxW (x : List Int) (xs : List (List Int)) : List Int := xs.foldl (fun a y => if a < y then y else a) x
theorem fold_minW : ∀ (xs : List (List Int)) (x : List Int), (WW xs).foldl (fun a y => if datLt y a then y else a) (.tup (I x)) = .tup (I (minW x xs))
  | [], x => rfl
  | y :: xs, x => by
    show (WW xs).foldl (fun a y => if datLt y a then y else a) (if datLt (.tup (I y)) (.tup (I x)) = true then .tup (I y) else .tup (I x)) = _
    rw [datLt_T]
    by_cases c : y < x
    · rw [if_pos (decide_eq_true c), fold_minW xs y]
      show _ = D.tup (I (minW (if y < x then y else x) xs))
      rw [if_pos c]
    · rw [if_neg (by simpa using c), fold_minW xs x]
      show _ = D.tup (I (minW (if y < x then y else x) xs))
      rw [if_neg c]
/-- min(l, default=d) -/
def minWD (T : List (List Int)) (d : List Int) : List Int := match T with
  | [] => d
  | x :: xs => minW x xs
theorem p_minD {T : List (List Int)} {d : List Int} (h : ∀ x ∈ T, x.length < 1000000) : primF (.bid .min) [.lst (WW T), .tup (I d)] = some (.tup (I (minWD T d))) := by
  cases T with
  | nil => rfl
  | cons x xs =>
    show (if alikeB (WW (x :: xs)) = true then some ((WW xs).foldl (fun a y => if datLt y a then y else a) (.tup (I x))) else none) = _
    rw [if_pos (alike_WW h), fold_minW]; rfl
theorem intsOf_WW {x : List Int} {xs : List (List Int)} : intsOf (WW (x :: xs)) = none := rfl
theorem p_minWW {x : List Int} {xs : List (List Int)} (h : ∀ y ∈ x :: xs, y.length < 1000000) : primF (.bi .min) [.lst (WW (x :: xs))] = some (.tup (I (minW x xs))) := by
  show (match intsOf (WW (x :: xs)) with | some ns => (minL ns).map D.int | none => minDF (WW (x :: xs))) = _
  rw [intsOf_WW]
  show (if alikeB (WW (x :: xs)) = true then some ((WW xs).foldl (fun a y => if datLt y a then y else a) (.tup (I x))) else none) = _
  rw [if_pos (alike_WW h), fold_minW]
theorem p_maxI {x : Int} {xs : List Int} : primF (.bi .max) [.lst (I (x :: xs))] = some (.int (xs.foldl (fun m y => if m < y then y else m) x)) := by
  show (match intsOf (I (x :: xs)) with | some ns => (maxL ns).map D.int | none => maxDF (I (x :: xs))) = _
  rw [intsOf_I]; rfl
theorem p_minI {x : Int} {xs : List Int} : primF (.bi .min) [.lst (I (x :: xs))] = some (.int (xs.foldl (fun m y => if y < m then y else m) x)) := by
  show (match intsOf (I (x :: xs)) with | some ns => (minL ns).map D.int | none => minDF (I (x :: xs))) = _
  rw [intsOf_I]; rfl
theorem lexLt_ints : ∀ v w : List Int, HT.lexLt v w = decide (v < w)
  | [], [] => by simp [HT.lexLt]
  | [], y :: ys => by simp [HT.lexLt]
  | x :: xs, [] => by simp [HT.lexLt]
  | x :: xs, y :: ys => by
    unfold HT.lexLt
    rw [lexLt_ints xs ys]
    by_cases h : x = y
    · subst h; simp
    · simp [h, List.cons_lt_cons_iff]
theorem p_ltT {v w : List Int} : primF (.cmp .Lt) [.tup (I v), .tup (I w)] = some (.bl (decide (v < w))) := by
  show (match intsOf (I v), intsOf (I w) with | some ns, some ms => some (HT.lexLt ns ms) | _, _ => none).map D.bl = _
  rw [intsOf_I, intsOf_I, ← lexLt_ints]; rfl
theorem a_add {i j : Int} : augF .Add (.int i) (.int j) = some (.int (i + j)) := rfl
theorem a_sub {i j : Int} : augF .Sub (.int i) (.int j) = some (.int (i - j)) := rfl
theorem a_mul {i j : Int} (h1 : -4611686018427387904 ≤ i) (h2 : i ≤ 4611686018427387904) (h3 : -4611686018427387904 ≤ j) (h4 : j ≤ 4611686018427387904) : augF .Mult (.int i) (.int j) = some (.int (i * j)) := by
  have := log2_lt (n := i.natAbs) (k := 63) (by omega) (by decide)
  have := log2_lt (n := j.natAbs) (k := 63) (by omega) (by decide)
  show (if _ then _ else _) = _
  rw [if_pos (by omega)]
theorem a_fd {i j : Int} (h : 0 < j) (h2 : j < 1073741824) : augF .FloorDiv (.int i) (.int j) = some (.int (i / j)) := by
  show (if _ then _ else _) = _
  rw [if_pos ⟨h, Nat.lt_of_lt_of_le (log2_lt (k := 30) (by omega) (by omega)) (by omega)⟩]
theorem a_md {i j : Int} (h : 0 < j) : augF .Mod (.int i) (.int j) = some (.int (i % j)) := by
  show (if _ then _ else _) = _
  rw [if_pos h]
theorem ltlim {n : Nat} (h : n < 1000000) : (n < lim) = True := eq_true (show n < 16777216 by omega)
theorem lelim {n : Nat} (h : n < 1000000) : (n ≤ lim) = True := eq_true (show n ≤ 16777216 by omega)
theorem abs_nat {a : Nat} : (if (a : Int) < 0 then -(a : Int) else (a : Int)) = a := if_neg (by omega)
/-- what is walked -/
theorem it_I {ρ : PEnv} {w : List Int} : itemsOf ρ .seq [.tup (I w)] = some (w.map D.int) := rfl
theorem it_IL {ρ : PEnv} {w : List Int} : itemsOf ρ .seq [.lst (I w)] = some (w.map D.int) := rfl
theorem it_WW {ρ : PEnv} {w : List (List Int)} : itemsOf ρ .seq [.lst (WW w)] = some (w.map fun x => D.tup (I x)) := rfl
theorem it_WWT {ρ : PEnv} {w : List (List Int)} : itemsOf ρ .seq [.tup (WW w)] = some (w.map fun x => D.tup (I x)) := rfl
theorem it_rng {ρ : PEnv} {n : Nat} (h : n < 1000000) : itemsOf ρ .rng [.int (n : Int)] = some ((List.range n).map fun k : Nat => D.int (k : Int)) := rng_nat (Nat.le_of_lt (show n < 16777216 by omega))
theorem it_rng2 {ρ : PEnv} {a n : Nat} (h : a < 1000000) (h' : n < 1000000) : itemsOf ρ .rng [.int (a : Int), .int (n : Int)] = some ((List.range (n - a)).map fun k => D.int ((a + k : Nat) : Int)) := rng_two (Nat.le_of_lt (show a < 16777216 by omega)) (Nat.le_of_lt (show n < 16777216 by omega))
end Py

set_option Elab.async false
set_option linter.all false
set_option maxRecDepth 100000
set_option maxHeartbeats 2000000
/-! typed functions beside the IR: what a printed function gives, the evaluator gives -/
namespace Tv
open PySem L2 Px Py
/-! encodings -/
abbrev eI : Int → D := D.int
abbrev eB : Bool → D := D.bl
abbrev eS : Str → D := D.str
abbrev eN : Unit → D := fun _ => .non
abbrev eD : D → D := fun d => d
abbrev eT {α : Type} (e : α → D) : List α → D := fun xs => .tup (xs.map e)
abbrev eL {α : Type} (e : α → D) : List α → D := fun xs => .lst (xs.map e)
abbrev eP {α β : Type} (e : α → D) (f : β → D) : α × β → D := fun p => .tup [e p.1, f p.2]
abbrev eP3 {α β γ : Type} (e : α → D) (f : β → D) (g : γ → D) : α × β × γ → D := fun p => .tup [e p.1, f p.2.1, g p.2.2]
def eO {α : Type} (e : α → D) : Option α → D
  | none => .non
  | some a => e a
/-! flows -/
inductive Fl (σ β : Type) where
  | nx (s : σ) | brk (s : σ) | ret (b : β)
inductive Lo (σ β : Type) where
  | nx (s : σ) | ret (b : β)
def forS {α σ β : Type} (f : α → σ → Option (Fl σ β)) : List α → σ → Option (Lo σ β)
  | [], s => some (.nx s)
  | x :: xs, s => (f x s).bind fun r => match r with
    | .nx s' => forS f xs s'
    | .brk s' => some (.nx s')
    | .ret b => some (.ret b)
def whileS {σ β : Type} (c : σ → Option Bool) (f : σ → Option (Fl σ β)) : Nat → σ → Option (Lo σ β)
  | 0, _ => none
  | n + 1, s => (c s).bind fun t => if t = true then (f s).bind fun r => match r with
    | .nx s' => whileS c f n s'
    | .brk s' => some (.nx s')
    | .ret b => some (.ret b)
    else some (.nx s)
/-- items made one by one, some left out, a state carried -/
def compS {α β σ : Type} (f : α → σ → Option (Option β × σ)) : List α → σ → Option (List β × σ)
  | [], s => some ([], s)
  | x :: xs, s => (f x s).bind fun r => (compS f xs r.2).bind fun q => some (match r.1 with | some y => y :: q.1 | none => q.1, q.2)
def compO {α β : Type} (f : α → Option (Option β)) : List α → Option (List β)
  | [] => some []
  | x :: xs => (f x).bind fun r => (compO f xs).bind fun q => some (match r with | some y => y :: q | none => q)
/-- a list that is not too long -/
def shortL {α : Type} (xs : List α) : Option (List α) := if xs.length < lim then some xs else none
/-! typed primitives that may fail -/
def catZ {α : Type} (xs ys : List α) : Option (List α) := if xs.length + ys.length ≤ lim then some (xs ++ ys) else none
def repT {α : Type} (xs : List α) (k : Int) : Option (List α) := if -1000 ≤ k ∧ k ≤ 1000 ∧ xs.length ≤ 1000 then some ((List.replicate k.toNat xs).flatten) else none
def repLZ {α : Type} (xs : List α) (k : Int) : Option (List α) := if -(2 ^ 62) < k ∧ k < 2 ^ 62 ∧ xs.length * k.toNat ≤ lim then some ((List.replicate k.toNat xs).flatten) else none
def cutZ {α : Type} (xs : List α) (lo hi : Option Int) : List α := (xs.drop (HT.sIx xs.length 0 lo)).take (HT.sIx xs.length xs.length hi - HT.sIx xs.length 0 lo)
def setZ {α : Type} (xs : List α) (i : Int) (x : α) : Option (List α) := (ixN xs.length i).map fun j => xs.set j x
def eqT (xs ys : List Int) : Option Bool := if xs.length < 1000000 ∧ ys.length < 1000000 then some (decide (xs = ys)) else none
def rngZ (lo hi : Int) : Option (List Int) := if (okRng lo && okRng hi) = true then some ((List.range (hi - lo).toNat).map fun k => lo + (k : Nat)) else none
def cntZ (xs : List Int) (i : Int) : Option Int := if xs.length < 1000000 then some (xs.count i) else none
def idxZ (xs : List Int) (i : Int) : Option Int := if xs.length < 1000000 then (xs.findIdx? (· == i)).map Int.ofNat else none
def lastZ {α : Type} (xs : List α) : Option α := xs.getLast?
section
variable {α β γ : Type} {e : α → D} {f : β → D}
theorem atI_map (e : α → β) (xs : List α) (i : Int) : atI (xs.map e) i = (atI xs i).map e := by
  unfold atI
  rw [List.length_map]
  cases ixN xs.length i with
  | none => rfl
  | some j => simp
theorem pI {op : Operator} {a b v : Int} (h : binI op a b = some v) : primF (.bin op) [.int a, .int b] = some (.int v) := by
  show (binI op a b).map D.int = _
  rw [h]; rfl
theorem pCatT {xs ys zs : List α} (h : catZ xs ys = some zs) : primF (.bin .Add) [.tup (xs.map e), .tup (ys.map e)] = some (.tup (zs.map e)) := by
  unfold catZ at h
  split at h
  · rename_i c
    cases h
    show (if _ then _ else _) = _
    rw [if_pos ⟨rfl, by simpa using c⟩, List.map_append]
  · cases h
theorem pCatL {xs ys zs : List α} (h : catZ xs ys = some zs) : primF (.bin .Add) [.lst (xs.map e), .lst (ys.map e)] = some (.lst (zs.map e)) := by
  unfold catZ at h
  split at h
  · rename_i c
    cases h
    show (if _ then _ else _) = _
    rw [if_pos ⟨rfl, by simpa using c⟩, List.map_append]
  · cases h
theorem aCatT {xs ys zs : List α} (h : catZ xs ys = some zs) : augF .Add (.tup (xs.map e)) (.tup (ys.map e)) = some (.tup (zs.map e)) := by
  unfold catZ at h
  split at h
  · rename_i c
    cases h
    show (if _ then _ else _) = _
    rw [if_pos (by simpa using c), List.map_append]
  · cases h
theorem pRepT {xs ys : List α} {k : Int} (h : repT xs k = some ys) : primF (.bin .Mult) [.tup (xs.map e), .int k] = some (.tup (ys.map e)) := by
  unfold repT at h
  split at h
  · rename_i c
    cases h
    show (if _ then _ else _) = _
    rw [if_pos ⟨rfl, c.1, c.2.1, by simpa using c.2.2⟩, rep_map]
  · cases h
theorem pRepL {xs ys : List α} {k : Int} (h : repLZ xs k = some ys) : primF (.bin .Mult) [.lst (xs.map e), .int k] = some (.lst (ys.map e)) := by
  unfold repLZ at h
  split at h
  · rename_i c
    cases h
    show (if _ then _ else _) = _
    rw [if_pos ⟨rfl, c.1, c.2.1, by simpa using c.2.2⟩, rep_map]
  · cases h
theorem pIxT {xs : List α} {i : Int} {v : α} (h : atI xs i = some v) : primF .ix [.tup (xs.map e), .int i] = some (e v) := by
  show atI _ _ = _
  rw [atI_map, h]; rfl
theorem pIxL {xs : List α} {i : Int} {v : α} (h : atI xs i = some v) : primF .ix [.lst (xs.map e), .int i] = some (e v) := by
  show atI _ _ = _
  rw [atI_map, h]; rfl
theorem cut_map {xs : List α} {lo hi : Option Int} : cutL (xs.map e) lo hi = (cutZ xs lo hi).map e := by
  unfold cutL cutZ
  simp [List.map_take, List.map_drop]
theorem pSl0T {xs : List α} : primF (.sl false false) [.tup (xs.map e)] = some (.tup ((cutZ xs none none).map e)) := by rw [← cut_map]; rfl
theorem pSl1T {xs : List α} {i : Int} : primF (.sl true false) [.tup (xs.map e), .int i] = some (.tup ((cutZ xs (some i) none).map e)) := by rw [← cut_map]; rfl
theorem pSl2T {xs : List α} {i : Int} : primF (.sl false true) [.tup (xs.map e), .int i] = some (.tup ((cutZ xs none (some i)).map e)) := by rw [← cut_map]; rfl
theorem pSl3T {xs : List α} {i j : Int} : primF (.sl true true) [.tup (xs.map e), .int i, .int j] = some (.tup ((cutZ xs (some i) (some j)).map e)) := by rw [← cut_map]; rfl
theorem pSl0L {xs : List α} : primF (.sl false false) [.lst (xs.map e)] = some (.lst ((cutZ xs none none).map e)) := by rw [← cut_map]; rfl
theorem pSl1L {xs : List α} {i : Int} : primF (.sl true false) [.lst (xs.map e), .int i] = some (.lst ((cutZ xs (some i) none).map e)) := by rw [← cut_map]; rfl
theorem pSl2L {xs : List α} {i : Int} : primF (.sl false true) [.lst (xs.map e), .int i] = some (.lst ((cutZ xs none (some i)).map e)) := by rw [← cut_map]; rfl
theorem pSl3L {xs : List α} {i j : Int} : primF (.sl true true) [.lst (xs.map e), .int i, .int j] = some (.lst ((cutZ xs (some i) (some j)).map e)) := by rw [← cut_map]; rfl
theorem pLenT {xs : List α} : primF (.bi .len) [.tup (xs.map e)] = some (.int xs.length) := by show some (D.int _) = _; rw [List.length_map]
theorem pLenL {xs : List α} : primF (.bi .len) [.lst (xs.map e)] = some (.int xs.length) := by show some (D.int _) = _; rw [List.length_map]
theorem pTupL {xs : List α} : primF (.bi .tuple) [.lst (xs.map e)] = some (.tup (xs.map e)) := rfl
theorem pTupT {xs : List α} : primF (.bi .tuple) [.tup (xs.map e)] = some (.tup (xs.map e)) := rfl
theorem pLstL {xs : List α} : primF (.bi .list) [.lst (xs.map e)] = some (.lst (xs.map e)) := rfl
theorem pLstT {xs : List α} : primF (.bi .list) [.tup (xs.map e)] = some (.lst (xs.map e)) := rfl
theorem pSumL {xs : List Int} : primF (.bi .sum) [.lst (xs.map eI)] = some (.int xs.sum) := by
  show (intsOf (I xs)).map _ = _
  rw [intsOf_I]; rfl
theorem pSumT {xs : List Int} : primF (.bi .sum) [.tup (xs.map eI)] = some (.int xs.sum) := by
  show (intsOf (I xs)).map _ = _
  rw [intsOf_I]; rfl
theorem pAll {xs : List Bool} : primF (.bi .all) [.lst (xs.map eB)] = some (.bl (xs.all id)) := by
  show (blsOf (B xs)).map _ = _
  rw [blsOf_B]; rfl
theorem pAny {xs : List Bool} : primF (.bi .any) [.lst (xs.map eB)] = some (.bl (xs.any id)) := by
  show (blsOf (B xs)).map _ = _
  rw [blsOf_B]; rfl
theorem pMaxL {xs : List Int} {v : Int} (h : maxL xs = some v) : primF (.bi .max) [.lst (xs.map eI)] = some (.int v) := by
  show (match intsOf (I xs) with | some ns => (maxL ns).map D.int | none => _) = _
  rw [intsOf_I]; simp only []; rw [h]; rfl
theorem pMinL {xs : List Int} {v : Int} (h : minL xs = some v) : primF (.bi .min) [.lst (xs.map eI)] = some (.int v) := by
  show (match intsOf (I xs) with | some ns => (minL ns).map D.int | none => _) = _
  rw [intsOf_I]; simp only []; rw [h]; rfl
theorem pAbs {i : Int} : primF (.bi .abs) [.int i] = some (.int (if i < 0 then -i else i)) := rfl
theorem pInt {i : Int} : primF (.bi .int) [.int i] = some (.int i) := rfl
theorem pIntB {b : Bool} : primF (.bi .int) [.bl b] = some (.int (if b then 1 else 0)) := rfl
theorem pMax2 {i j : Int} : primF (.bi .max) [.int i, .int j] = some (.int (if j > i then j else i)) := rfl
theorem pMin2 {i j : Int} : primF (.bi .min) [.int i, .int j] = some (.int (if j < i then j else i)) := rfl
theorem pRevT {xs : List α} : primF .srev [.tup (xs.map e)] = some (.tup (xs.reverse.map e)) := by show some (D.tup _) = _; rw [List.map_reverse]
theorem pRevL {xs : List α} : primF .srev [.lst (xs.map e)] = some (.lst (xs.reverse.map e)) := by show some (D.lst _) = _; rw [List.map_reverse]
theorem pTrev {xs : List α} : primF .trev [.lst (xs.map e)] = some (.tup (xs.reverse.map e)) := by show some (D.tup _) = _; rw [List.map_reverse]
theorem pNeg {i : Int} : primF .neg [.int i] = some (.int (-i)) := rfl
theorem pEqT {xs ys : List Int} {b : Bool} (h : eqT xs ys = some b) : primF (.cmp .Eq) [.tup (xs.map eI), .tup (ys.map eI)] = some (.bl b) := by
  unfold eqT at h
  split at h
  · rename_i c; cases h; exact p_eqT c.1 c.2
  · cases h
theorem pNeT {xs ys : List Int} {b : Bool} (h : eqT xs ys = some b) : primF (.cmp .NotEq) [.tup (xs.map eI), .tup (ys.map eI)] = some (.bl (!b)) := by
  unfold eqT at h
  split at h
  · rename_i c; cases h; exact p_neT c.1 c.2
  · cases h
theorem pEqL {xs ys : List Int} {b : Bool} (h : eqT xs ys = some b) : primF (.cmp .Eq) [.lst (xs.map eI), .lst (ys.map eI)] = some (.bl b) := by
  unfold eqT at h
  split at h
  · rename_i c; cases h; exact p_eqL c.1 c.2
  · cases h
theorem pNeL {xs ys : List Int} {b : Bool} (h : eqT xs ys = some b) : primF (.cmp .NotEq) [.lst (xs.map eI), .lst (ys.map eI)] = some (.bl (!b)) := by
  unfold eqT at h
  split at h
  · rename_i c; cases h; exact p_neL c.1 c.2
  · cases h
theorem pEqD {a b : D} {t : Bool} (h : eqF a b = some t) : primF (.cmp .Eq) [a, b] = some (.bl t) := by
  show (eqF a b).map D.bl = _
  rw [h]; rfl
theorem pNeD {a b : D} {t : Bool} (h : eqF a b = some t) : primF (.cmp .NotEq) [a, b] = some (.bl (!t)) := by
  show ((eqF a b).map (!·)).map D.bl = _
  rw [h]; rfl
theorem cnt_I (xs : List Int) (i : Int) : ((D.py.pyAll (xs.map eI)).countP fun y => PyData.eqv y (D.int i).py) = xs.count i := by
  induction xs with
  | nil => rfl
  | cons x xs ih =>
    show List.countP _ (PyData.int x :: D.py.pyAll (xs.map eI)) = _
    rw [List.countP_cons, List.count_cons, ih]
    have : PyData.eqv (.int x) (D.int i).py = (x == i) := by
      show PyData.eqv (.int x) (.int i) = _
      by_cases h : x = i
      · subst h; simp [PyData.eqv]
      · simp [PyData.eqv, h]
    rw [this]
theorem idx_I (xs : List Int) (i : Int) : ((D.py.pyAll (xs.map eI)).findIdx? fun y => PyData.eqv y (D.int i).py) = xs.findIdx? (· == i) := by
  induction xs with
  | nil => rfl
  | cons x xs ih =>
    show List.findIdx? _ (PyData.int x :: D.py.pyAll (xs.map eI)) = _
    rw [List.findIdx?_cons, List.findIdx?_cons, ih]
    have : PyData.eqv (.int x) (D.int i).py = (x == i) := by
      show PyData.eqv (.int x) (.int i) = _
      by_cases h : x = i
      · subst h; simp [PyData.eqv]
      · simp [PyData.eqv, h]
    rw [this]
end
end Tv

set_option Elab.async false
set_option linter.all false
set_option maxRecDepth 100000
set_option maxHeartbeats 2000000
namespace Tv
open PySem L2 Px Py
theorem plain_I (xs : List Int) : PyData.plainAll (D.py.pyAll (xs.map eI)) = true := by
  induction xs with
  | nil => rfl
  | cons x xs ih =>
    show PyData.plainAll (PyData.int x :: D.py.pyAll (xs.map eI)) = true
    simpa [PyData.plainAll, PyData.plain] using ih
theorem cntF_I {xs : List Int} {i v : Int} (h : cntZ xs i = some v) : cntF (xs.map eI) (.int i) = some (.int v) := by
  unfold cntZ at h
  split at h
  · rename_i c
    cases h
    unfold cntF
    have hl : xs.length < lim := Nat.lt_trans c (by decide)
    rw [if_pos ⟨plain_I xs, rfl, rfl, shaped_ok (d := .lst (xs.map eI)) (pl_IL (n := 0) hl) (by decide)⟩, cnt_I]
  · cases h
theorem pCntT {xs : List Int} {i v : Int} (h : cntZ xs i = some v) : primF (.mth .count) [.tup (xs.map eI), .int i] = some (.int v) := cntF_I h
theorem pCntL {xs : List Int} {i v : Int} (h : cntZ xs i = some v) : primF (.mth .count) [.lst (xs.map eI), .int i] = some (.int v) := cntF_I h
theorem pIdxL {xs : List Int} {i v : Int} (h : idxZ xs i = some v) : primF (.mth .index) [.lst (xs.map eI), .int i] = some (.int v) := by
  unfold idxZ at h
  split at h
  · rename_i c
    show idxF _ _ = _
    unfold idxF
    have hl : xs.length < lim := Nat.lt_trans c (by decide)
    rw [if_pos ⟨rfl, shaped_ok (d := .lst (xs.map eI)) (pl_IL (n := 0) hl) (by decide)⟩, idx_I]
    rw [Option.map_eq_some_iff] at h
    obtain ⟨j, hj, rfl⟩ := h
    rw [hj]; rfl
  · cases h
theorem pIdxT {xs : List Int} {i v : Int} (h : idxZ xs i = some v) : primF (.mth .index) [.tup (xs.map eI), .int i] = some (.int v) := by
  unfold idxZ at h
  split at h
  · rename_i c
    show idxPF _ _ = _
    unfold idxPF
    have hl : xs.length < lim := Nat.lt_trans c (by decide)
    rw [if_pos ⟨plain_I xs, rfl, rfl, shaped_ok (d := .lst (xs.map eI)) (pl_IL (n := 0) hl) (by decide)⟩, idx_I]
    rw [Option.map_eq_some_iff] at h
    obtain ⟨j, hj, rfl⟩ := h
    rw [hj]; rfl
  · cases h
section
variable {G : Sig} {ρ ρ1 ρ2 ρ3 : PEnv}
/-! expressions -/
theorem e_pv {e : E} {d : D} (h : pv G e ρ = some d) : ev G e ρ = .ok (d, ρ) := pv_ok G e ρ d h
theorem e_var {i : Nat} {d : D} (h : getS ρ i = some (.dat d)) : ev G (.var i) ρ = .ok (d, ρ) := by unfold ev; rw [h]
/-- a list of the frame's own stands still from now on -/
theorem e_frz {i : Nat} {xs : List D} (h : getS ρ i = some (.own xs)) : ev G (.var i) ρ = .ok (.lst xs, ρ.set i (some (.dat (.lst xs)))) := by unfold ev; rw [h]
theorem e_con {d : D} : ev G (.con d) ρ = .ok (d, ρ) := by unfold ev; rfl
theorem os_nil : opnds G [] ρ = .ok ([], ρ) := by unfold opnds; rfl
theorem os_cons {a : Ar} {as : List Ar} {o : Opd} {os : List Opd} (h1 : opnd G a ρ = .ok (o, ρ1)) (h2 : opnds G as ρ1 = .ok (os, ρ2)) : opnds G (a :: as) ρ = .ok (o :: os, ρ2) := by
  unfold opnds; rw [h1, Out.bind_okS, h2, Out.bind_okS]
theorem o_slot {i : Nat} {s : Px.Slot} (h : getS ρ i = some s) : opnd G (.slot i) ρ = .ok (.slot i, ρ) := by unfold opnd; rw [h]
theorem o_ex {e : E} {d : D} (h : ev G e ρ = .ok (d, ρ1)) : opnd G (.ex e) ρ = .ok (.val d, ρ1) := by unfold opnd; rw [h, Out.bind_okS]
theorem e_prim {p : P} {as : List Ar} {os : List Opd} {ds : List D} {d : D} (h1 : opnds G as ρ = .ok (os, ρ1)) (h2 : rdAll ρ1 os = some ds) (h3 : primF p ds = some d) : ev G (.prim p as) ρ = .ok (d, ρ1) := by
  unfold ev; rw [h1, Out.bind_okS, h2, Out.of_someS, Out.bind_okS, h3, Out.of_someS, Out.bind_okS]
theorem es_nil : evs G [] ρ = .ok ([], ρ) := by unfold evs; rfl
theorem es_cons {e : E} {es : List E} {d : D} {ds : List D} (h1 : ev G e ρ = .ok (d, ρ1)) (h2 : evs G es ρ1 = .ok (ds, ρ2)) : evs G (e :: es) ρ = .ok (d :: ds, ρ2) := by
  unfold evs; rw [h1, Out.bind_okS, h2, Out.bind_okS]
theorem e_tup {es : List E} {ds : List D} (h1 : evs G es ρ = .ok (ds, ρ1)) (h2 : ds.length ≤ lim := by exact Nat.le_of_ble_eq_true rfl) : ev G (.dsp true es) ρ = .ok (.tup ds, ρ1) := by
  unfold ev; rw [h1, Out.bind_okS]; simp only []; rw [if_pos h2]; rfl
theorem e_lst {es : List E} {ds : List D} (h1 : evs G es ρ = .ok (ds, ρ1)) (h2 : ds.length ≤ lim := by exact Nat.le_of_ble_eq_true rfl) : ev G (.dsp false es) ρ = .ok (.lst ds, ρ1) := by
  unfold ev; rw [h1, Out.bind_okS]; simp only []; rw [if_pos h2]; rfl
theorem e_not {a : E} {b : Bool} (h : ev G a ρ = .ok (.bl b, ρ1)) : ev G (.not a) ρ = .ok (.bl (!b), ρ1) := by unfold ev; rw [h, Out.bind_okS]
theorem e_isi {a : Ar} {ty : IT} {o : Opd} {d : D} (h : opnd G a ρ = .ok (o, ρ1)) (h2 : rdO ρ1 o = some d) (h3 : d.isObj = false) : ev G (.isi a ty) ρ = .ok (.bl (isiF d ty), ρ1) := by
  unfold ev; rw [h, Out.bind_okS, h2, Out.of_someS, Out.bind_okS, if_neg (by rw [h3]; exact Bool.false_ne_true)]
/-- and, or -/
theorem e_bop1 {c : Bool} {a : E} {b : Bool} (h : ev G a ρ = .ok (.bl b, ρ1)) : evB G c [a] ρ = .ok (.bl b, ρ1) := by unfold evB; rw [h, Out.bind_okS]
theorem e_bop {c : Bool} {es : List E} {d : D} (h : evB G c es ρ = .ok (d, ρ1)) : ev G (.bop c es) ρ = .ok (d, ρ1) := by unfold ev; exact h
theorem e_bopS {c : Bool} {a a2 : E} {es : List E} {b v : Bool} (h : ev G a ρ = .ok (.bl b, ρ1)) (h1 : b = c → evB G c (a2 :: es) ρ1 = .ok (.bl v, ρ1)) (h2 : b ≠ c → v = b) : evB G c (a :: a2 :: es) ρ = .ok (.bl v, ρ1) := by
  unfold evB
  rw [h, Out.bind_okS]
  simp only []
  by_cases hb : b = c
  · rw [if_pos hb]; exact h1 hb
  · rw [if_neg hb, h2 hb]
/-- a and rest: o is what the rest gives -/
theorem e_and {a a2 : E} {es : List E} {b v : Bool} {o : Option Bool} (h : ev G a ρ = .ok (.bl b, ρ1)) (h1 : ∀ w, o = some w → evB G true (a2 :: es) ρ1 = .ok (.bl w, ρ1)) (h2 : (if b = true then o else some false) = some v) : evB G true (a :: a2 :: es) ρ = .ok (.bl v, ρ1) := by
  refine e_bopS h (fun e => ?_) fun e => ?_
  · rw [if_pos e] at h2; exact h1 v h2
  · rw [if_neg e] at h2; cases h2; cases b; rfl; exact absurd rfl e
theorem e_or {a a2 : E} {es : List E} {b v : Bool} {o : Option Bool} (h : ev G a ρ = .ok (.bl b, ρ1)) (h1 : ∀ w, o = some w → evB G false (a2 :: es) ρ1 = .ok (.bl w, ρ1)) (h2 : (if b = true then some true else o) = some v) : evB G false (a :: a2 :: es) ρ = .ok (.bl v, ρ1) := by
  refine e_bopS h (fun e => ?_) fun e => ?_
  · rw [if_neg (by rw [e]; exact Bool.false_ne_true)] at h2; exact h1 v h2
  · cases b with
    | false => exact absurd rfl e
    | true => cases h2; rfl
/-! tests -/
theorem t_val {a : Ar} {o : Opd} {d : D} {b : Bool} (h : opnd G a ρ = .ok (o, ρ1)) (h2 : rdO ρ1 o = some d) (h3 : truD d = some b) : evT G (.val a) ρ = .ok (b, ρ1) := by
  unfold evT; rw [h, Out.bind_okS, h2, Out.of_someS, Out.bind_okS, h3, Out.of_someS, Out.bind_okS]
theorem t_e {e : E} {b : Bool} (h : ev G e ρ = .ok (.bl b, ρ1)) : evT G (.val (.ex e)) ρ = .ok (b, ρ1) := t_val (o_ex h) rfl rfl
theorem t_not {t : Px.T} {b : Bool} (h : evT G t ρ = .ok (b, ρ1)) : evT G (.not t) ρ = .ok (!b, ρ1) := by unfold evT; rw [h, Out.bind_okS]
theorem t_bop {c : Bool} {ts : List Px.T} {b : Bool} (h : evC G c ts ρ = .ok (b, ρ1)) : evT G (.bop c ts) ρ = .ok (b, ρ1) := by unfold evT; exact h
theorem c_nil {c : Bool} : evC G c [] ρ = .ok (c, ρ) := by unfold evC; rfl
theorem c_one {c : Bool} {t : Px.T} {b : Bool} (h : evT G t ρ = .ok (b, ρ1)) : evC G c [t] ρ = .ok (b, ρ1) := by
  unfold evC; rw [h, Out.bind_okS]; simp only []
  by_cases e : b = c
  · rw [if_pos e, c_nil, e]
  · rw [if_neg e]
theorem c_and {t : Px.T} {ts : List Px.T} {b v : Bool} {o : Option Bool} (h : evT G t ρ = .ok (b, ρ1)) (h1 : ∀ w, o = some w → evC G true ts ρ1 = .ok (w, ρ1)) (h2 : (if b = true then o else some false) = some v) : evC G true (t :: ts) ρ = .ok (v, ρ1) := by
  unfold evC; rw [h, Out.bind_okS]; simp only []
  by_cases e : b = true
  · rw [if_pos e]; rw [if_pos e] at h2; exact h1 v h2
  · rw [if_neg e]; rw [if_neg e] at h2; cases h2; cases b; rfl; exact absurd rfl e
theorem c_or {t : Px.T} {ts : List Px.T} {b v : Bool} {o : Option Bool} (h : evT G t ρ = .ok (b, ρ1)) (h1 : ∀ w, o = some w → evC G false ts ρ1 = .ok (w, ρ1)) (h2 : (if b = true then some true else o) = some v) : evC G false (t :: ts) ρ = .ok (v, ρ1) := by
  unfold evC; rw [h, Out.bind_okS]; simp only []
  cases b with
  | false => rw [if_pos rfl]; rw [if_neg Bool.false_ne_true] at h2; exact h1 v h2
  | true => rw [if_neg (by decide)]; rw [if_pos rfl] at h2; cases h2; rfl
theorem e_ite {c : Px.T} {a b : E} {t : Bool} {d : D} (h : evT G c ρ = .ok (t, ρ1)) (h1 : t = true → ev G a ρ1 = .ok (d, ρ2)) (h2 : t = false → ev G b ρ1 = .ok (d, ρ2)) : ev G (.ite c a b) ρ = .ok (d, ρ2) := by
  unfold ev; rw [h, Out.bind_okS]
  cases t with
  | true => exact h1 rfl
  | false => exact h2 rfl
/-- a call of data -/
theorem e_call {f : Str} {as : List Ar} {ds : List D} {s : Px.Slot} (h1 : opnds G as ρ = .ok (ds.map .val, ρ1)) (h2 : callV G f ds = .ok s) : ev G (.call f as) ρ = .ok (s.frz, ρ1) := by
  unfold ev
  have : callR (G f) (fun ρ => opnds G as ρ) ρ = .ok (s, ρ1) := by
    unfold callV callD at h2
    unfold callR
    cases hg : G f with
    | none => rw [hg] at h2; cases h2
    | some g =>
      rw [hg] at h2
      obtain ⟨⟨r, outs⟩, e1, e2⟩ := Out.bind_ok h2
      cases e2
      have e1 : g (ds.map .dat) = .ok (r, outs) := e1
      simp only []
      rw [h1, Out.bind_okS]
      have a1 : ∀ (ds : List D), argS ρ1 (ds.map .val) = some (ds.map .dat) := by
        intro ds
        induction ds with
        | nil => rfl
        | cons d ds ih => show (argS ρ1 (ds.map .val)).map _ = _; rw [ih]; rfl
      have a2 : ∀ (ds : List D) (k : Nat), backA outs k (ds.map .val) ρ1 = some ρ1 := by
        intro ds
        induction ds with
        | nil => intro k; rfl
        | cons d ds ih => intro k; exact ih (k + 1)
      have a3 : ∀ (ds : List D), slotsOf (ds.map .val) = [] := by
        intro ds
        induction ds with
        | nil => rfl
        | cons d ds ih => exact ih
      simp only []
      rw [a1, Out.of_someS, Out.bind_okS, e1, Out.bind_okS, a3, if_pos List.nodup_nil, a2, Out.of_someS, Out.bind_okS]
  rw [this, Out.bind_okS]
theorem eo_call {f : Str} {as : List Ar} {ds : List D} {s : Px.Slot} (h1 : opnds G as ρ = .ok (ds.map .val, ρ1)) (h2 : callV G f ds = .ok s) : evo G (.call f as) ρ = .ok (s, ρ1) := by
  show callR (G f) (fun ρ => opnds G as ρ) ρ = _
  unfold callV callD at h2
  unfold callR
  cases hg : G f with
  | none => rw [hg] at h2; cases h2
  | some g =>
    rw [hg] at h2
    obtain ⟨⟨r, outs⟩, e1, e2⟩ := Out.bind_ok h2
    cases e2
    have e1 : g (ds.map .dat) = .ok (r, outs) := e1
    simp only []
    rw [h1, Out.bind_okS]
    have a1 : ∀ (ds : List D), argS ρ1 (ds.map .val) = some (ds.map .dat) := by
      intro ds
      induction ds with
      | nil => rfl
      | cons d ds ih => show (argS ρ1 (ds.map .val)).map _ = _; rw [ih]; rfl
    have a2 : ∀ (ds : List D) (k : Nat), backA outs k (ds.map .val) ρ1 = some ρ1 := by
      intro ds
      induction ds with
      | nil => intro k; rfl
      | cons d ds ih => intro k; exact ih (k + 1)
    have a3 : ∀ (ds : List D), slotsOf (ds.map .val) = [] := by
      intro ds
      induction ds with
      | nil => rfl
      | cons d ds ih => exact ih
    simp only []
    rw [a1, Out.of_someS, Out.bind_okS, e1, Out.bind_okS, a3, if_pos List.nodup_nil, a2, Out.of_someS, Out.bind_okS]
/-- what a def that is given a list of ours makes: its value, that list -/
def drawF (g : Gfun) (st : List D) (n : Int) : Option (Int × List D) := match g [.own st, .dat (.int n)] with
  | .ok (.dat (.int v), outs) => match getS outs 0 with
    | some (.mo (.lst st')) => some (v, st')
    | _ => none
  | _ => none
theorem e_draw {f : Str} {g : Gfun} {s : Nat} {st st' : List D} {e : E} {n v : Int} (hg : G f = some g) (h0 : getS ρ s = some (.own st)) (h1 : ev G e ρ = .ok (.int n, ρ1)) (h2 : getS ρ1 s = some (.own st)) (hd : drawF g st n = some (v, st')) : ev G (.call f [.slot s, .ex e]) ρ = .ok (.int v, ρ1.set s (some (.own st'))) := by
  unfold drawF at hd
  split at hd
  · rename_i w outs hr
    split at hd
    · rename_i st2 ho
      cases hd
      unfold ev callR
      rw [hg]
      simp only []
      rw [os_cons (o_slot h0) (os_cons (o_ex h1) os_nil), Out.bind_okS]
      simp only []
      have a1 : argS ρ1 [.slot s, .val (.int n)] = some [.own st, .dat (.int n)] := by
        show (match getS ρ1 s with | some (.mo w) => (argS ρ1 [Opd.val (.int n)]).map (Px.Slot.mo w :: ·) | _ => none) = _
        rw [h2]; rfl
      have a2 : backA outs 0 [.slot s, .val (.int n)] ρ1 = some (ρ1.set s (some (.own st'))) := by
        show (match getS outs 0 with | some (.mo w) => backA outs (0 + 1) [Opd.val (.int n)] (ρ1.set s (some (.mo w))) | _ => none) = _
        rw [ho]; rfl
      rw [a1, Out.of_someS, Out.bind_okS, hr, Out.bind_okS, if_pos (by show ([s] : List Nat).Nodup; simp), a2, Out.of_someS, Out.bind_okS, Out.bind_okS]
      rfl
    · cases hd
  · cases hd
end
end Tv

set_option Elab.async false
set_option linter.all false
set_option maxRecDepth 100000
set_option maxHeartbeats 2000000
namespace Tv
open PySem L2 Px Py
section
variable {G : Sig} {ρ ρ1 ρ2 ρ3 : PEnv}
/-! what is walked -/
theorem it_rng1 {hi : Int} {xs : List Int} (h : rngZ 0 hi = some xs) : itemsOf ρ .rng [.int hi] = some (xs.map eI) := by
  unfold rngZ at h
  split at h
  · rename_i c
    cases h
    rw [Bool.and_eq_true] at c
    show (if okRng hi = true then some (rngItems 0 hi) else none) = _
    rw [if_pos c.2]
    unfold rngItems
    simp
  · cases h
theorem it_rng2 {lo hi : Int} {xs : List Int} (h : rngZ lo hi = some xs) : itemsOf ρ .rng [.int lo, .int hi] = some (xs.map eI) := by
  unfold rngZ at h
  split at h
  · rename_i c
    cases h
    show (if (okRng lo && okRng hi) = true then some (rngItems lo hi) else none) = _
    rw [if_pos c]
    unfold rngItems
    simp
  · cases h
theorem it_tup {xs : List D} : itemsOf ρ .seq [.tup xs] = some xs := rfl
theorem it_lst {xs : List D} : itemsOf ρ .seq [.lst xs] = some xs := rfl
theorem it_brw {i : Nat} {xs : List D} (h : getS ρ i = some (.own xs)) : itemsOf ρ (.brw i) [] = some xs := by
  show (match getS ρ i with | some (.mo (.lst xs)) => some xs | _ => none) = _
  rw [h]
theorem same_rng : sameB .rng ρ ρ1 = true := rfl
theorem same_seq : sameB .seq ρ ρ1 = true := rfl
theorem same_brw {i : Nat} (h : getS ρ i = getS ρ1 i) : sameB (.brw i) ρ ρ1 = true := decide_eq_true h
/-! comprehensions -/
theorem compL_S {α β σ : Type} {ex : α → D} {ey : β → D} {W : σ → PEnv} {f : α → σ → Option (Option β × σ)} {F : D → PEnv → Out (List D × PEnv)}
    (hF : ∀ x s r s', f x s = some (r, s') → F (ex x) (W s) = .ok (match r with | some y => [ey y] | none => [], W s')) : ∀ {xs : List α} {s : σ} {ys : List β} {s1 : σ}, compS f xs s = some (ys, s1) → compL F (xs.map ex) (W s) = .ok (ys.map ey, W s1)
  | [], s, ys, s1, h => by cases h; rfl
  | x :: xs, s, ys, s1, h => by
    unfold compS at h
    obtain ⟨⟨r, s'⟩, h1, h2⟩ := bindS h
    obtain ⟨⟨q, s2⟩, h3, h4⟩ := bindS h2
    cases h4
    show (F (ex x) (W s)).bind _ = _
    rw [hF x s r s' h1, Out.bind_okS]
    show (compL F (xs.map ex) (W s')).bind _ = _
    rw [compL_S hF h3, Out.bind_okS]
    cases r <;> rfl
theorem e_compS {α β σ : Type} {ex : α → D} {ey : β → D} {vs : List Nat} {tg : Bool × List Nat} {ik : IK} {ies : List E} {conds : List Px.T} {elt : E} {q : List D} {xs : List α} {ys : List β} {s0 s1 : σ} (W : σ → PEnv) (f : α → σ → Option (Option β × σ))
    (h1 : evs G ies ρ = .ok (q, ρ1)) (h2 : itemsOf ρ1 ik q = some (xs.map ex)) (h3 : (vs.all fun v => !isOwn (getS ρ1 v)) = true) (hw : wipeP ρ1 vs = W s0)
    (hf : ∀ x s r s', f x s = some (r, s') → ∃ ρ2 t ρ3, setT (W s) tg (ex x) = some ρ2 ∧ evC G true conds ρ2 = .ok (t, ρ3) ∧ match r with
      | some y => t = true ∧ ∃ ρ4, ev G elt ρ3 = .ok (ey y, ρ4) ∧ sameB ik ρ1 ρ4 = true ∧ wipeP ρ4 vs = W s'
      | none => t = false ∧ sameB ik ρ1 ρ3 = true ∧ wipeP ρ3 vs = W s')
    (h : compS f xs s0 = some (ys, s1)) (hl : ys.length < lim) : ev G (.comp vs tg ik ies conds elt) ρ = .ok (.lst (ys.map ey), backP ρ1 (W s1) vs) := by
  unfold ev
  rw [h1, Out.bind_okS, h2, Out.of_someS, Out.bind_okS, if_pos h3, hw]
  rw [compL_S (ex := ex) (ey := ey) (W := W) (f := f) (fun x s r s' hx => ?_) h, Out.bind_okS]
  · rw [if_pos (by rw [List.length_map]; exact hl)]
  · obtain ⟨ρ2, t, ρ3, a1, a2, a3⟩ := hf x s r s' hx
    simp only []
    rw [a1, Out.of_someS, Out.bind_okS, a2, Out.bind_okS]
    cases r with
    | some y =>
      obtain ⟨rfl, ρ4, b1, b2, b3⟩ := a3
      simp only []
      rw [b1, Out.bind_okS, if_pos b2, b3]
    | none =>
      obtain ⟨rfl, b2, b3⟩ := a3
      simp only []
      rw [if_pos b2, b3]
theorem compS_O {α β : Type} {f : α → Option (Option β)} : ∀ {xs : List α} {ys : List β}, compO f xs = some ys → compS (fun x (u : Unit) => (f x).map fun r => (r, u)) xs () = some (ys, ())
  | [], ys, h => by cases h; rfl
  | x :: xs, ys, h => by
    unfold compO at h
    obtain ⟨r, h1, h2⟩ := bindS h
    obtain ⟨q, h3, h4⟩ := bindS h2
    cases h4
    unfold compS
    simp only [h1, Option.map_some, Option.bind_some]
    have := compS_O h3
    simp only [this, Option.bind_some]
/-- without a state -/
theorem e_comp {α β : Type} {ex : α → D} {ey : β → D} {vs : List Nat} {tg : Bool × List Nat} {ik : IK} {ies : List E} {conds : List Px.T} {elt : E} {q : List D} {xs : List α} {ys : List β} (W : PEnv) (f : α → Option (Option β))
    (h1 : evs G ies ρ = .ok (q, ρ1)) (h2 : itemsOf ρ1 ik q = some (xs.map ex)) (h3 : (vs.all fun v => !isOwn (getS ρ1 v)) = true) (hw : wipeP ρ1 vs = W)
    (hf : ∀ x r, f x = some r → ∃ ρ2 t ρ3, setT W tg (ex x) = some ρ2 ∧ evC G true conds ρ2 = .ok (t, ρ3) ∧ match r with
      | some y => t = true ∧ ∃ ρ4, ev G elt ρ3 = .ok (ey y, ρ4) ∧ sameB ik ρ1 ρ4 = true ∧ wipeP ρ4 vs = W
      | none => t = false ∧ sameB ik ρ1 ρ3 = true ∧ wipeP ρ3 vs = W)
    (h : (compO f xs).bind shortL = some ys) (hb : backP ρ1 W vs = ρ2) : ev G (.comp vs tg ik ies conds elt) ρ = .ok (.lst (ys.map ey), ρ2) := by
  obtain ⟨zs, g1, g2⟩ := bindS h
  unfold shortL at g2
  split at g2
  · rename_i hl
    cases g2
    rw [← hb]
    refine e_compS (fun _ : Unit => W) (fun x u => (f x).map fun r => (r, u)) h1 h2 h3 hw (fun x s r s' hx => ?_) (compS_O g1) hl
    obtain ⟨r', e1, e2⟩ := mapS hx
    cases e2
    exact hf x r e1
  · cases g2
/-! statements -/
theorem exs_consS {s : S} {ss : List S} : exs G (s :: ss) ρ = (ex G s ρ).bind fun r => match r.1 with
    | .nx => exs G ss r.2
    | f => .ok (f, r.2) := by
  rw [exs]
  all_goals
    cases ex G s ρ with
    | bad => rfl
    | ok r => obtain ⟨f, ρ1⟩ := r; cases f <;> rfl
theorem exs_append {ss ts : List S} : exs G (ss ++ ts) ρ = (exs G ss ρ).bind fun r => match r.1 with | .nx => exs G ts r.2 | f => .ok (f, r.2) := by
  induction ss generalizing ρ with
  | nil => show exs G ts ρ = Out.bind (exs G [] ρ) _; unfold exs; rfl
  | cons s ss ih =>
    show exs G (s :: (ss ++ ts)) ρ = Out.bind (exs G (s :: ss) ρ) _
    rw [exs_consS, exs_consS]
    cases h : ex G s ρ with
    | bad => rfl
    | ok r =>
      obtain ⟨f, ρ1⟩ := r
      rw [Out.bind_okS, Out.bind_okS]
      cases f with
      | nx => exact ih
      | brk => rfl
      | cnt => rfl
      | ret s => rfl
variable {K : Flw → PEnv → Prop} {ss : List S}
abbrev X (G : Sig) (ss : List S) (ρ : PEnv) (K : Flw → PEnv → Prop) : Prop := WSs G ss ρ K
theorem x_nil (h : K .nx ρ) : X G [] ρ K := ws_nil h
theorem x_mono {K' : Flw → PEnv → Prop} (m : ∀ fl ρ', K fl ρ' → K' fl ρ') (h : X G ss ρ K) : X G ss ρ K' := let ⟨fl, ρ', a, b⟩ := h; ⟨fl, ρ', a, m _ _ b⟩
theorem x_set {i : Nat} {e : E} {d : D} (h : ev G e ρ = .ok (d, ρ1)) (q : X G ss (ρ1.set i (some (.dat d))) K) : X G (.set false i e :: ss) ρ K := wc (ws_set h q)
theorem x_seto {i : Nat} {e : E} {d : Px.Slot} (h : evo G e ρ = .ok (d, ρ1)) (q : X G ss (ρ1.set i (some d)) K) : X G (.set true i e :: ss) ρ K := wc (ws_seto h q)
theorem x_ret {e : E} {d : Px.Slot} (h : evo G e ρ = .ok (d, ρ1)) (q : K (.ret d) ρ1) : X G (.ret e :: ss) ρ K := wc (ws_ret h q)
theorem x_retN (q : K (.ret (.dat .non)) ρ) : X G (.retN :: ss) ρ K := wc ⟨.ret (.dat .non), _, by unfold ex; rfl, q⟩
theorem x_brk (q : K .brk ρ) : X G (.brk :: ss) ρ K := wc ⟨.brk, _, by unfold ex; rfl, q⟩
theorem x_cnt (q : K .cnt ρ) : X G (.cnt :: ss) ρ K := wc ⟨.cnt, _, by unfold ex; rfl, q⟩
theorem x_nop (q : X G ss ρ K) : X G (.nop :: ss) ρ K := wc ⟨.nx, _, by unfold ex; rfl, q⟩
theorem x_drop {e : E} {d : D} (h : ev G e ρ = .ok (d, ρ1)) (q : X G ss ρ1 K) : X G (.drop e :: ss) ρ K := wc ⟨.nx, _, by unfold ex; rw [h]; rfl, q⟩
theorem x_upk {is : List Nat} {e : E} {d : D} (h : ev G e ρ = .ok (d, ρ1)) (h2 : setT ρ1 (true, is) d = some ρ2) (q : X G ss ρ2 K) : X G (.upk is e :: ss) ρ K :=
  wc ⟨.nx, _, by unfold ex; rw [h, Out.bind_okS]; simp only []; rw [h2, Out.of_someS, Out.bind_okS], q⟩
theorem x_par {i j : Nat} {a b : E} {d c : D} (h : ev G a ρ = .ok (d, ρ1)) (h2 : ev G b ρ1 = .ok (c, ρ2)) (q : X G ss ((ρ2.set i (some (.dat d))).set j (some (.dat c))) K) : X G (.par false i false j a b :: ss) ρ K :=
  wc ⟨.nx, _, by unfold ex evc; simp only []; rw [h, Out.bind_okS]; simp only []; rw [Out.bind_okS, h2, Out.bind_okS]; simp only []; rw [Out.bind_okS], q⟩
theorem x_aug {i : Nat} {op : Operator} {e : E} {d c z : D} (h0 : getS ρ i = some (.dat d)) (h : ev G e ρ = .ok (c, ρ1)) (h2 : augF op d c = some z) (q : X G ss (ρ1.set i (some (.dat z))) K) : X G (.aug i op e :: ss) ρ K :=
  wc ⟨.nx, _, by unfold ex; rw [h0]; simp only []; rw [h, Out.bind_okS]; simp only []; rw [h2, Out.of_someS, Out.bind_okS], q⟩
theorem x_app {i : Nat} {e : E} {d : D} {xs xs0 : List D} (h0 : getS ρ i = some (.own xs0)) (h : ev G e ρ = .ok (d, ρ1)) (h1 : getS ρ1 i = some (.own xs)) (hl : xs.length < lim) (q : X G ss (ρ1.set i (some (.own (xs ++ [d])))) K) : X G (.app i e :: ss) ρ K :=
  wc ⟨.nx, _, by unfold ex; rw [h0]; simp only [isOwnL, if_true]; rw [h, Out.bind_okS]; simp only []; rw [h1]; simp only []; rw [if_pos hl], q⟩
theorem x_seti {i : Nat} {ix e : E} {d : D} {xs xs0 ys : List D} {j : Int} (h : ev G e ρ = .ok (d, ρ1)) (h0 : getS ρ1 i = some (.own xs0)) (h1 : ev G ix ρ1 = .ok (.int j, ρ2)) (h2 : getS ρ2 i = some (.own xs)) (h3 : setAt xs j d = some ys) (q : X G ss (ρ2.set i (some (.own ys))) K) : X G (.seti i ix e :: ss) ρ K :=
  wc ⟨.nx, _, by unfold ex; rw [h, Out.bind_okS]; simp only []; rw [h0]; simp only [isOwnL, if_true]; rw [h1, Out.bind_okS]; simp only []; rw [h2]; simp only []; rw [h3, Out.of_someS, Out.bind_okS], q⟩
theorem x_ite {c : Px.T} {a b : List S} {t : Bool} (h : evT G c ρ = .ok (t, ρ1)) (q1 : t = true → X G (a ++ ss) ρ1 K) (q2 : t = false → X G (b ++ ss) ρ1 K) : X G (.ite c a b :: ss) ρ K := by
  cases t with
  | true =>
    obtain ⟨fl, ρ', e, k⟩ := q1 rfl
    refine ⟨fl, ρ', ?_, k⟩
    rw [exs_append] at e
    unfold exs ex
    rw [h, Out.bind_okS]
    exact e
  | false =>
    obtain ⟨fl, ρ', e, k⟩ := q2 rfl
    refine ⟨fl, ρ', ?_, k⟩
    rw [exs_append] at e
    unfold exs ex
    rw [h, Out.bind_okS]
    exact e
theorem forL_S {α σ β : Type} {ex : α → D} {R : σ → PEnv → Prop} {er : β → Px.Slot} {f : α → σ → Option (Fl σ β)} {F : D → PEnv → Out (Flw × PEnv)}
    (hb : ∀ x s r ρ', R s ρ' → f x s = some r → ∃ fl ρ'', F (ex x) ρ' = .ok (fl, ρ'') ∧ match r with
      | .nx s' => (fl = .nx ∨ fl = .cnt) ∧ R s' ρ''
      | .brk s' => fl = .brk ∧ R s' ρ''
      | .ret b => fl = .ret (er b)) : ∀ {xs : List α} {s : σ} {ρ : PEnv} {o : Lo σ β}, R s ρ → forS f xs s = some o → ∃ fl ρ', forL F (xs.map ex) ρ = .ok (fl, ρ') ∧ match o with
      | .nx s' => fl = .nx ∧ R s' ρ'
      | .ret b => fl = .ret (er b)
  | [], s, ρ, o, h0, h => by cases h; exact ⟨.nx, ρ, rfl, rfl, h0⟩
  | x :: xs, s, ρ, o, h0, h => by
    unfold forS at h
    obtain ⟨r, h1, h2⟩ := bindS h
    obtain ⟨fl, ρ1, a1, a2⟩ := hb x s r ρ h0 h1
    rw [List.map_cons]
    unfold forL
    rw [a1, Out.bind_okS]
    cases r with
    | nx s' =>
      obtain ⟨a3, a4⟩ := a2
      obtain ⟨fl2, ρ2, b1, b2⟩ := forL_S hb a4 h2
      rcases a3 with rfl | rfl
      · exact ⟨fl2, ρ2, b1, b2⟩
      · exact ⟨fl2, ρ2, b1, b2⟩
    | brk s' =>
      obtain ⟨rfl, a4⟩ := a2
      cases h2
      exact ⟨.nx, ρ1, rfl, rfl, a4⟩
    | ret b =>
      obtain rfl := a2
      cases h2
      exact ⟨.ret (er b), ρ1, rfl, rfl⟩
theorem x_for {α σ β : Type} {ex : α → D} {tg : Bool × List Nat} {ik : IK} {ies : List E} {body : List S} {q : List D} {xs : List α} {s0 : σ} {o : Lo σ β} (R : σ → PEnv → Prop) (er : β → Px.Slot) (f : α → σ → Option (Fl σ β))
    (h1 : evs G ies ρ = .ok (q, ρ1)) (h2 : itemsOf ρ1 ik q = some (xs.map ex)) (h3 : freeB ik (tg.2 ++ wrs body) = true) (h0 : R s0 ρ1)
    (hb : ∀ x s r ρ', R s ρ' → f x s = some r → ∃ ρ2, setT ρ' tg (ex x) = some ρ2 ∧ X G body ρ2 fun fl ρ'' => sameB ik ρ1 ρ'' = true ∧ match r with
      | .nx s' => (fl = .nx ∨ fl = .cnt) ∧ R s' ρ''
      | .brk s' => fl = .brk ∧ R s' ρ''
      | .ret b => fl = .ret (er b))
    (h : forS f xs s0 = some o) (k1 : ∀ s' ρ', o = .nx s' → R s' ρ' → X G ss ρ' K) (k2 : ∀ b ρ', o = .ret b → K (.ret (er b)) ρ') : X G (.loop tg ik ies body :: ss) ρ K := by
  obtain ⟨fl, ρ', a1, a2⟩ := forL_S (F := fun x ρ1' => (Out.of (setT ρ1' tg x)).bind fun ρ2 => (exs G body ρ2).bind fun r => if sameB ik ρ1 r.2 = true then .ok r else .bad) (ex := ex) (R := R) (er := er) (f := f) (fun x s r ρ' hr hx => by
    obtain ⟨ρ2, b1, fl, ρ3, b2, b3, b4⟩ := hb x s r ρ' hr hx
    refine ⟨fl, ρ3, ?_, b4⟩
    show Out.bind _ _ = _
    rw [b1, Out.of_someS, Out.bind_okS, b2, Out.bind_okS, if_pos b3]) h0 h
  have key : Px.ex G (.loop tg ik ies body) ρ = .ok (fl, ρ') := by
    unfold Px.ex
    rw [h1, Out.bind_okS, h2, Out.of_someS, Out.bind_okS, if_pos h3]
    exact a1
  cases o with
  | nx s' =>
    obtain ⟨rfl, a3⟩ := a2
    obtain ⟨fl2, ρ2, b1, b2⟩ := k1 s' ρ' rfl a3
    exact ⟨fl2, ρ2, by unfold exs; rw [key, Out.bind_okS]; exact b1, b2⟩
  | ret b =>
    obtain rfl := a2
    exact ⟨_, ρ', by unfold exs; rw [key, Out.bind_okS], k2 b ρ' rfl⟩
theorem whileL_S {σ β : Type} {R : σ → PEnv → Prop} {er : β → Px.Slot} {c : σ → Option Bool} {f : σ → Option (Fl σ β)} {C : PEnv → Out (Bool × PEnv)} {F : PEnv → Out (Flw × PEnv)}
    (hc : ∀ s t ρ', R s ρ' → c s = some t → ∃ ρ'', C ρ' = .ok (t, ρ'') ∧ R s ρ'')
    (hb : ∀ s r ρ', R s ρ' → c s = some true → f s = some r → ∃ fl ρ'', F ρ' = .ok (fl, ρ'') ∧ match r with
      | .nx s' => (fl = .nx ∨ fl = .cnt) ∧ R s' ρ''
      | .brk s' => fl = .brk ∧ R s' ρ''
      | .ret b => fl = .ret (er b)) : ∀ {n : Nat} {s : σ} {ρ : PEnv} {o : Lo σ β}, R s ρ → whileS c f n s = some o → ∃ fl ρ', whileL C F n ρ = .ok (fl, ρ') ∧ match o with
      | .nx s' => fl = .nx ∧ R s' ρ'
      | .ret b => fl = .ret (er b)
  | 0, s, ρ, o, h0, h => by cases h
  | n + 1, s, ρ, o, h0, h => by
    unfold whileS at h
    obtain ⟨t, h1, h2⟩ := bindS h
    obtain ⟨ρ1, a1, a2⟩ := hc s t ρ h0 h1
    unfold whileL
    rw [a1, Out.bind_okS]
    cases t with
    | false =>
      rw [if_neg Bool.false_ne_true] at h2
      cases h2
      exact ⟨.nx, ρ1, rfl, rfl, a2⟩
    | true =>
      rw [if_pos rfl] at h2
      obtain ⟨r, h3, h4⟩ := bindS h2
      obtain ⟨fl, ρ2, b1, b2⟩ := hb s r ρ1 a2 h1 h3
      simp only []
      rw [b1, Out.bind_okS]
      cases r with
      | nx s' =>
        obtain ⟨a3, a4⟩ := b2
        obtain ⟨fl2, ρ3, c1, c2⟩ := whileL_S hc hb a4 h4
        rcases a3 with rfl | rfl
        · exact ⟨fl2, ρ3, c1, c2⟩
        · exact ⟨fl2, ρ3, c1, c2⟩
      | brk s' =>
        obtain ⟨rfl, a4⟩ := b2
        cases h4
        exact ⟨.nx, ρ2, rfl, rfl, a4⟩
      | ret b =>
        obtain rfl := b2
        cases h4
        exact ⟨.ret (er b), ρ2, rfl, rfl⟩
theorem x_while {σ β : Type} {c : Px.T} {body : List S} {s0 : σ} {o : Lo σ β} (R : σ → PEnv → Prop) (er : β → Px.Slot) (cf : σ → Option Bool) (f : σ → Option (Fl σ β)) (h0 : R s0 ρ)
    (hc : ∀ s t ρ', R s ρ' → cf s = some t → ∃ ρ'', evT G c ρ' = .ok (t, ρ'') ∧ R s ρ'')
    (hb : ∀ s r ρ', R s ρ' → cf s = some true → f s = some r → X G body ρ' fun fl ρ'' => match r with
      | .nx s' => (fl = .nx ∨ fl = .cnt) ∧ R s' ρ''
      | .brk s' => fl = .brk ∧ R s' ρ''
      | .ret b => fl = .ret (er b))
    (h : whileS cf f wlim s0 = some o) (k1 : ∀ s' ρ', o = .nx s' → R s' ρ' → X G ss ρ' K) (k2 : ∀ b ρ', o = .ret b → K (.ret (er b)) ρ') : X G (.whil c body :: ss) ρ K := by
  obtain ⟨fl, ρ', a1, a2⟩ := whileL_S (C := evT G c) (F := exs G body) (R := R) (er := er) hc (fun s r ρ' hr hcs hx => hb s r ρ' hr hcs hx) h0 h
  have key : Px.ex G (.whil c body) ρ = .ok (fl, ρ') := by unfold Px.ex; exact a1
  cases o with
  | nx s' =>
    obtain ⟨rfl, a3⟩ := a2
    obtain ⟨fl2, ρ2, b1, b2⟩ := k1 s' ρ' rfl a3
    exact ⟨fl2, ρ2, by unfold exs; rw [key, Out.bind_okS]; exact b1, b2⟩
  | ret b =>
    obtain rfl := a2
    exact ⟨_, ρ', by unfold exs; rw [key, Out.bind_okS], k2 b ρ' rfl⟩
/-! values of returns and of own names -/
theorem v_dat {e : E} {d : D} (h : ev G e ρ = .ok (d, ρ1)) (hs : ∀ {q}, (ev G e ρ = .ok q) → evo G e ρ = .ok (.dat q.1, q.2)) : evo G e ρ = .ok (.dat d, ρ1) := hs h
theorem v_own {i : Nat} {xs : List D} (h : getS ρ i = some (.own xs)) : evo G (.var i) ρ = .ok (.own xs, ρ.set i none) := by
  show (match getS ρ i with | some (.dat d) => Out.ok (Px.Slot.dat d, ρ) | some (.mo (.lst xs)) => .ok (.own xs, ρ.set i none) | _ => .bad) = _
  rw [h]
theorem v_var {i : Nat} {d : D} (h : getS ρ i = some (.dat d)) : evo G (.var i) ρ = .ok (.dat d, ρ) := by
  show (match getS ρ i with | some (.dat d) => Out.ok (Px.Slot.dat d, ρ) | some (.mo (.lst xs)) => .ok (.own xs, ρ.set i none) | _ => .bad) = _
  rw [h]
theorem v_con {d : D} : evo G (.con d) ρ = .ok (.dat d, ρ) := evo_con
theorem v_tup {es : List E} {d : D} (h : ev G (.dsp true es) ρ = .ok (d, ρ1)) : evo G (.dsp true es) ρ = .ok (.dat d, ρ1) := by
  show (ev G (.dsp true es) ρ).bind _ = _
  rw [h]; rfl
theorem v_lst {es : List E} {xs : List D} (h : ev G (.dsp false es) ρ = .ok (.lst xs, ρ1)) : evo G (.dsp false es) ρ = .ok (.own xs, ρ1) := by
  show (ev G (.dsp false es) ρ).bind _ = _
  rw [h]; rfl
theorem v_bop {c : Bool} {es : List E} {d : D} (h : ev G (.bop c es) ρ = .ok (d, ρ1)) : evo G (.bop c es) ρ = .ok (.dat d, ρ1) := by
  show (ev G (.bop c es) ρ).bind _ = _
  rw [h]; rfl
theorem v_not {a : E} {d : D} (h : ev G (.not a) ρ = .ok (d, ρ1)) : evo G (.not a) ρ = .ok (.dat d, ρ1) := by
  show (ev G (.not a) ρ).bind _ = _
  rw [h]; rfl
theorem v_ite {c : Px.T} {a b : E} {d : D} (h : ev G (.ite c a b) ρ = .ok (d, ρ1)) : evo G (.ite c a b) ρ = .ok (.dat d, ρ1) := by
  show (ev G (.ite c a b) ρ).bind _ = _
  rw [h]; rfl
theorem v_isi {a : Ar} {ty : IT} {d : D} (h : ev G (.isi a ty) ρ = .ok (d, ρ1)) : evo G (.isi a ty) ρ = .ok (.dat d, ρ1) := by
  show (ev G (.isi a ty) ρ).bind _ = _
  rw [h]; rfl
theorem v_comp {vs : List Nat} {tg : Bool × List Nat} {ik : IK} {ies : List E} {conds : List Px.T} {elt : E} {xs : List D} (h : ev G (.comp vs tg ik ies conds elt) ρ = .ok (.lst xs, ρ1)) : evo G (.comp vs tg ik ies conds elt) ρ = .ok (.own xs, ρ1) := by
  show (ev G (.comp vs tg ik ies conds elt) ρ).bind _ = _
  rw [h]; rfl
/-- a primitive whose value is no list -/
theorem v_prim {p : P} {as : List Ar} {d : D} (h : ev G (.prim p as) ρ = .ok (d, ρ1)) (hd : (match freshP p, d with | true, .lst xs => Px.Slot.own xs | _, d => .dat d) = .dat d) : evo G (.prim p as) ρ = .ok (.dat d, ρ1) := by
  show (ev G (.prim p as) ρ).bind _ = _
  rw [h, Out.bind_okS, ← hd]
  cases freshP p <;> cases d <;> rfl
theorem v_primL {p : P} {as : List Ar} {xs : List D} (h : ev G (.prim p as) ρ = .ok (.lst xs, ρ1)) (hp : freshP p = true) : evo G (.prim p as) ρ = .ok (.own xs, ρ1) := by
  show (ev G (.prim p as) ρ).bind _ = _
  rw [h, Out.bind_okS, hp]
theorem ev_eq {e : E} {d d' : D} (h : ev G e ρ = .ok (d, ρ1)) (hd : d = d') : ev G e ρ = .ok (d', ρ1) := hd ▸ h
theorem evo_eq {e : E} {d d' : Px.Slot} (h : evo G e ρ = .ok (d, ρ1)) (hd : d = d') : evo G e ρ = .ok (d', ρ1) := hd ▸ h
end
end Tv

set_option Elab.async false
set_option linter.all false
set_option maxRecDepth 100000
set_option maxHeartbeats 2000000
namespace Tv
open PySem L2 Px Py
section
variable {G : Sig} {ρ ρ1 ρ2 ρ3 : PEnv} {α β : Type} {e : α → D}
/-! total and, or -/
theorem e_andT {a a2 : E} {es : List E} {b w : Bool} (h : ev G a ρ = .ok (.bl b, ρ1)) (h1 : evB G true (a2 :: es) ρ1 = .ok (.bl w, ρ1)) : evB G true (a :: a2 :: es) ρ = .ok (.bl (b && w), ρ1) :=
  e_and (o := some w) h (fun w' e => by cases e; exact h1) (by cases b <;> rfl)
theorem e_orT {a a2 : E} {es : List E} {b w : Bool} (h : ev G a ρ = .ok (.bl b, ρ1)) (h1 : evB G false (a2 :: es) ρ1 = .ok (.bl w, ρ1)) : evB G false (a :: a2 :: es) ρ = .ok (.bl (b || w), ρ1) :=
  e_or (o := some w) h (fun w' e => by cases e; exact h1) (by cases b <;> rfl)
theorem c_andT {t : Px.T} {ts : List Px.T} {b w : Bool} (h : evT G t ρ = .ok (b, ρ1)) (h1 : evC G true ts ρ1 = .ok (w, ρ1)) : evC G true (t :: ts) ρ = .ok (b && w, ρ1) :=
  c_and (o := some w) h (fun w' e => by cases e; exact h1) (by cases b <;> rfl)
theorem c_orT {t : Px.T} {ts : List Px.T} {b w : Bool} (h : evT G t ρ = .ok (b, ρ1)) (h1 : evC G false ts ρ1 = .ok (w, ρ1)) : evC G false (t :: ts) ρ = .ok (b || w, ρ1) :=
  c_or (o := some w) h (fun w' e => by cases e; exact h1) (by cases b <;> rfl)
theorem e_iteT {c : Px.T} {a b : E} {t : Bool} {x y : α} (h : evT G c ρ = .ok (t, ρ1)) (h1 : ev G a ρ1 = .ok (e x, ρ2)) (h2 : ev G b ρ1 = .ok (e y, ρ2)) : ev G (.ite c a b) ρ = .ok (e (if t = true then x else y), ρ2) := by
  refine e_ite h (fun e => ?_) fun e => ?_
  · subst e; exact h1
  · subst e; exact h2
theorem pIsB {a b : Bool} : primF (.cmp .Is) [.bl a, .bl b] = some (.bl (decide (a = b))) := by cases a <;> cases b <;> rfl
theorem pIsNotB {a b : Bool} : primF (.cmp .IsNot) [.bl a, .bl b] = some (.bl (!decide (a = b))) := by cases a <;> cases b <;> rfl
theorem pIsN {o : Option α} (he : ∀ a, e a ≠ .non) : primF (.cmp .Is) [eO e o, .non] = some (.bl o.isNone) := by
  cases o with
  | none => rfl
  | some a => show some (D.bl (decide (e a = .non))) = _; rw [decide_eq_false (he a)]; rfl
theorem pIsNotN {o : Option α} (he : ∀ a, e a ≠ .non) : primF (.cmp .IsNot) [eO e o, .non] = some (.bl (!o.isNone)) := by
  cases o with
  | none => rfl
  | some a => show some (D.bl (!decide (e a = .non))) = _; rw [decide_eq_false (he a)]; rfl
theorem tr_tup {xs : List α} : truD (.tup (xs.map e)) = some (!xs.isEmpty) := by cases xs <;> rfl
theorem tr_lst {xs : List α} : truD (.lst (xs.map e)) = some (!xs.isEmpty) := by cases xs <;> rfl
theorem any_I (xs : List Int) (i : Int) : ((D.py.pyAll (xs.map eI)).any fun y => PyData.eqv y (D.int i).py) = xs.contains i := by
  induction xs with
  | nil => rfl
  | cons x xs ih =>
    show List.any (PyData.int x :: D.py.pyAll (xs.map eI)) _ = _
    rw [List.any_cons, ih, List.contains_cons]
    have : PyData.eqv (.int x) (D.int i).py = (i == x) := by
      show PyData.eqv (.int x) (.int i) = _
      by_cases h : x = i
      · subst h; simp [PyData.eqv]
      · have : i ≠ x := fun c => h c.symm
        rw [show (i == x) = false from beq_eq_false_iff_ne.mpr this]
        simp [PyData.eqv, h]
    rw [this]
def inZ (i : Int) (xs : List Int) : Option Bool := if xs.length < 1000000 then some (xs.contains i) else none
theorem inF_I {neg : Bool} {i : Int} {xs : List Int} {b : Bool} (h : inZ i xs = some b) : inF neg (.int i) (xs.map eI) = some (if neg then !b else b) := by
  unfold inZ at h
  split at h
  · rename_i c
    cases h
    unfold inF
    have hl : xs.length < lim := Nat.lt_trans c (by decide)
    rw [if_pos ⟨rfl, shaped_ok (d := .lst (xs.map eI)) (pl_IL (n := 0) hl) (by decide)⟩, any_I]
  · cases h
theorem pInT {i : Int} {xs : List Int} {b : Bool} (h : inZ i xs = some b) : primF (.cmp .In) [.int i, .tup (xs.map eI)] = some (.bl b) := by
  show (inF false _ _).map D.bl = _
  rw [inF_I h]; rfl
theorem pInL {i : Int} {xs : List Int} {b : Bool} (h : inZ i xs = some b) : primF (.cmp .In) [.int i, .lst (xs.map eI)] = some (.bl b) := by
  show (inF false _ _).map D.bl = _
  rw [inF_I h]; rfl
theorem pNiT {i : Int} {xs : List Int} {b : Bool} (h : inZ i xs = some b) : primF (.cmp .NotIn) [.int i, .tup (xs.map eI)] = some (.bl (!b)) := by
  show (inF true _ _).map D.bl = _
  rw [inF_I h]; rfl
theorem pNiL {i : Int} {xs : List Int} {b : Bool} (h : inZ i xs = some b) : primF (.cmp .NotIn) [.int i, .lst (xs.map eI)] = some (.bl (!b)) := by
  show (inF true _ _).map D.bl = _
  rw [inF_I h]; rfl
/-! least of words -/
def okW (xs : List (List Int)) : Bool := xs.all fun x => decide (x.length < 1000000)
theorem okW_ok {xs : List (List Int)} (h : okW xs = true) : ∀ x ∈ xs, x.length < 1000000 := fun x hx => of_decide_eq_true (List.all_eq_true.mp h x hx)
def minWZ (xs : List (List Int)) (d : List Int) : Option (List Int) := if okW xs = true then some (minWD xs d) else none
theorem pMinW {xs : List (List Int)} {d v : List Int} (h : minWZ xs d = some v) : primF (.bid .min) [.lst (xs.map (eT eI)), .tup (d.map eI)] = some (.tup (v.map eI)) := by
  unfold minWZ at h
  split at h
  · rename_i c
    cases h
    exact p_minD (okW_ok c)
  · cases h
/-! sorted -/
theorem insMap {f : α → β} {le : β → β → Bool} (xs : List α) : (xs.map f).mergeSort le = (xs.mergeSort fun a b => le (f a) (f b)).map f := by
  have h := List.map_mergeSort (f := f) (r := fun a b => le (f a) (f b)) (s := le) (l := xs) (fun a _ b _ => rfl)
  exact h.symm
def srtWZ (xs : List (List Int)) : Option (List (List Int)) := if okW xs = true ∧ xs.length ≤ lim ∧ (xs.all fun x => !x.isEmpty) = true then some (xs.mergeSort fun a b => !decide (b < a)) else none
theorem pSrtW {xs ys : List (List Int)} (h : srtWZ xs = some ys) : primF (.bi .sorted) [.lst (xs.map (eT eI))] = some (.lst (ys.map (eT eI))) := by
  unfold srtWZ at h
  split at h
  · rename_i c
    cases h
    show (if okSort (WW xs) = true then some (D.lst (srtD (WW xs))) else none) = _
    have h1 : okSort (WW xs) = true := by
      unfold okSort
      have : (WW xs).all tupNE = true := by
        rw [List.all_eq_true]
        intro d hd
        obtain ⟨x, hx, rfl⟩ := List.mem_map.mp hd
        have := List.all_eq_true.mp c.2.2 x hx
        cases x with
        | nil => cases this
        | cons y r => rfl
      have hl : (WW xs).length ≤ lim := by simpa using c.2.1
      have ha : alikeB (WW xs) = true := by
        cases xs with
        | nil => rfl
        | cons x r => exact alike_WW (okW_ok c.1)
      rw [ha, this, decide_eq_true hl]; rfl
    rw [if_pos h1]
    unfold srtD
    show some (D.lst ((xs.map (eT eI)).mergeSort fun a b => !datLt b a)) = _
    rw [insMap]
    have : (fun a b => (fun a b => !datLt b a) (eT eI a) (eT eI b)) = (fun (a b : List Int) => !decide (b < a)) := by
      funext a b
      show (!datLt (.tup (I b)) (.tup (I a))) = _
      rw [datLt_T]
    rw [this]
  · cases h
/-! pairs, stores -/
def unp2 : List α → Option (α × α)
  | [a, b] => some (a, b)
  | _ => none
theorem unp2_ok {xs : List α} {v : α × α} (h : unp2 xs = some v) : xs = [v.1, v.2] := by
  match xs, h with
  | [a, b], h => cases h; rfl
theorem setAt_map {xs ys : List α} {i : Int} {x : α} (h : setZ xs i x = some ys) : setAt (xs.map e) i (e x) = some (ys.map e) := by
  unfold setZ at h
  unfold setAt
  rw [List.length_map]
  cases hi : ixN xs.length i with
  | none => rw [hi] at h; cases h
  | some j => rw [hi] at h; cases h; show some _ = _; rw [List.map_set]
def augZ (op : Operator) (a b : Int) : Option Int := match augF op (.int a) (.int b) with
  | some (.int z) => some z
  | _ => none
theorem aAug {op : Operator} {a b z : Int} (h : augZ op a b = some z) : augF op (.int a) (.int b) = some (.int z) := by
  unfold augZ at h
  split at h
  · rename_i w hw; cases h; exact hw
  · cases h
def appZ (xs : List α) (x : α) : Option (List α) := if xs.length < lim then some (xs ++ [x]) else none
theorem appZ_len {xs ys : List α} {x : α} (h : appZ xs x = some ys) : (xs.map e).length < lim := by
  unfold appZ at h
  split at h
  · rename_i c; simpa using c
  · cases h
theorem appZ_ok {xs ys : List α} {x : α} (h : appZ xs x = some ys) : ys.map e = xs.map e ++ [e x] := by
  unfold appZ at h
  split at h
  · cases h; rw [List.map_append]; rfl
  · cases h
/-! draws within -/
theorem e_draws {σ : Type} {ex : α → D} {ey : β → D} {vs : List Nat} {tg : Bool × List Nat} {ik : IK} {ies : List E} {conds : List Px.T} {elt : E} {q : List D} {xs : List α} {ys : List β × σ} {zs : List β} {s0 : σ} (W : σ → PEnv) (f : α → σ → Option (Option β × σ))
    (h1 : evs G ies ρ = .ok (q, ρ1)) (h2 : itemsOf ρ1 ik q = some (xs.map ex)) (h3 : (vs.all fun v => !isOwn (getS ρ1 v)) = true) (hw : wipeP ρ1 vs = W s0)
    (hf : ∀ x s r s', f x s = some (r, s') → ∃ ρ2 t ρ3, setT (W s) tg (ex x) = some ρ2 ∧ evC G true conds ρ2 = .ok (t, ρ3) ∧ match r with
      | some y => t = true ∧ ∃ ρ4, ev G elt ρ3 = .ok (ey y, ρ4) ∧ sameB ik ρ1 ρ4 = true ∧ wipeP ρ4 vs = W s'
      | none => t = false ∧ sameB ik ρ1 ρ3 = true ∧ wipeP ρ3 vs = W s')
    (h : compS f xs s0 = some ys) (hl : shortL ys.1 = some zs) (hb : backP ρ1 (W ys.2) vs = ρ2) : ev G (.comp vs tg ik ies conds elt) ρ = .ok (.lst (zs.map ey), ρ2) := by
  unfold shortL at hl
  split at hl
  · rename_i c
    cases hl
    rw [← hb]
    exact e_compS W f h1 h2 h3 hw hf (s1 := ys.2) h c
  · cases hl
/-! two generators -/
def compF (f : α → Option (List β)) : List α → Option (List β)
  | [] => some []
  | x :: xs => (f x).bind fun q => (compF f xs).bind fun r => some (q ++ r)
theorem compL_F {ex : α → D} {ey : β → D} {W : PEnv} {f : α → Option (List β)} {F : D → PEnv → Out (List D × PEnv)}
    (hF : ∀ x r, f x = some r → F (ex x) W = .ok (r.map ey, W)) : ∀ {xs : List α} {ys : List β}, compF f xs = some ys → compL F (xs.map ex) W = .ok (ys.map ey, W)
  | [], ys, h => by cases h; rfl
  | x :: xs, ys, h => by
    unfold compF at h
    obtain ⟨r, h1, h2⟩ := bindS h
    obtain ⟨q, h3, h4⟩ := bindS h2
    cases h4
    show (F (ex x) W).bind _ = _
    rw [hF x r h1, Out.bind_okS]
    show (compL F (xs.map ex) W).bind _ = _
    rw [compL_F hF h3, Out.bind_okS, List.map_append]
theorem e_comp2 {γ : Type} {ex : α → D} {ez : γ → D} {ey : β → D} {vs : List Nat} {tg : Bool × List Nat} {ik : IK} {ies : List E} {conds : List Px.T} {vs1 : List Nat} {tg1 : Bool × List Nat} {ik1 : IK} {ies1 : List E} {conds1 : List Px.T} {elt : E} {q : List D} {xs : List α} {ys : List β} (W : PEnv) (f : α → Option (List β))
    (h1 : evs G ies ρ = .ok (q, ρ1)) (h2 : itemsOf ρ1 ik q = some (xs.map ex)) (h3 : (vs.all fun v => !isOwn (getS ρ1 v)) = true) (b0 : isBrw ik = false) (b1 : isBrw ik1 = false) (hw : wipeP ρ1 vs = W)
    (hf : ∀ x r, f x = some r → ∃ ρ2 t ρ3, setT W tg (ex x) = some ρ2 ∧ evC G true conds ρ2 = .ok (t, ρ3) ∧ (t = false ∧ r = [] ∧ wipeP ρ3 vs = W ∨ t = true ∧ ∃ q1 ρ4 W1, ∃ zs : List γ, ∃ g : γ → Option (Option β), evs G ies1 ρ3 = .ok (q1, ρ4) ∧ itemsOf ρ4 ik1 q1 = some (zs.map ez) ∧ wipeP ρ4 vs1 = W1 ∧ wipeP W1 vs = W ∧ compO g zs = some r ∧ ∀ y o, g y = some o → ∃ ρ5 u ρ6, setT W1 tg1 (ez y) = some ρ5 ∧ evC G true conds1 ρ5 = .ok (u, ρ6) ∧ match o with
      | some z => u = true ∧ ∃ ρ7, ev G elt ρ6 = .ok (ey z, ρ7) ∧ wipeP ρ7 vs1 = W1
      | none => u = false ∧ wipeP ρ6 vs1 = W1))
    (h : (compF f xs).bind shortL = some ys) (hb : backP ρ1 W vs = ρ2) : ev G (.comp2 vs tg ik ies conds vs1 tg1 ik1 ies1 conds1 elt) ρ = .ok (.lst (ys.map ey), ρ2) := by
  obtain ⟨zs, g1, g2⟩ := bindS h
  unfold shortL at g2
  split at g2
  · rename_i hl
    cases g2
    unfold ev
    rw [h1, Out.bind_okS, h2, Out.of_someS, Out.bind_okS, if_pos ⟨h3, b0, b1⟩, hw]
    rw [compL_F (ex := ex) (ey := ey) (W := W) (f := f) (fun x r hx => ?_) g1, Out.bind_okS]
    · rw [if_pos (by rw [List.length_map]; exact hl), hb]
    · obtain ⟨ρ2, t, ρ3, a1, a2, a3⟩ := hf x r hx
      show (Out.of (setT W tg (ex x))).bind _ = _
      rw [a1, Out.of_someS, Out.bind_okS, a2, Out.bind_okS]
      rcases a3 with ⟨rfl, rfl, a4⟩ | ⟨rfl, q1, ρ4, W1, zs, g, c1, c2, c3, c4, c5, c6⟩
      · simp only []
        rw [a4]; rfl
      · simp only []
        rw [c1, Out.bind_okS, c2, Out.of_someS, Out.bind_okS, c3]
        have k := compL_S (ex := ez) (ey := ey) (W := fun _ : Unit => W1) (f := fun x u => (g x).map fun r => (r, u)) (F := fun y ρ3 => (Out.of (setT ρ3 tg1 y)).bind fun ρ4 => (evC G true conds1 ρ4).bind fun u => match u.1 with
                | true => (ev G elt u.2).bind fun r => .ok ([r.1], wipeP r.2 vs1)
                | false => .ok ([], wipeP u.2 vs1)) (fun y s o s' hy => by
          obtain ⟨o', d1, d2⟩ := mapS hy
          cases d2
          obtain ⟨ρ5, u, ρ6, f1, f2, f3⟩ := c6 y _ d1
          show (Out.of (setT W1 tg1 (ez y))).bind _ = _
          rw [f1, Out.of_someS, Out.bind_okS, f2, Out.bind_okS]
          cases o with
          | some z =>
            obtain ⟨rfl, ρ7, i1, i2⟩ := f3
            simp only []
            rw [i1, Out.bind_okS, i2]
          | none =>
            obtain ⟨rfl, i2⟩ := f3
            simp only []
            rw [i2]) (compS_O c5)
        refine Eq.trans (congrArg (fun z => Out.bind z fun r => .ok (r.1, wipeP r.2 vs)) k) ?_
        rw [Out.bind_okS, c4]
  · cases g2
theorem pCmpD {op : CmpOp} {a b : D} {t : Bool} (h : cmpF op a b = some t) : primF (.cmp op) [a, b] = some (.bl t) := by
  show (cmpF op a b).map D.bl = _
  rw [h]; rfl
def isiZ (d : D) (ty : IT) : Option Bool := if d.isObj = true then none else some (isiF d ty)
theorem e_isiZ {a : Ar} {ty : IT} {o : Opd} {d : D} {b : Bool} (h : opnd G a ρ = .ok (o, ρ1)) (h2 : rdO ρ1 o = some d) (h3 : isiZ d ty = some b) : ev G (.isi a ty) ρ = .ok (.bl b, ρ1) := by
  unfold isiZ at h3
  split at h3
  · cases h3
  · rename_i c
    cases h3
    exact e_isi h h2 (Bool.eq_false_iff.mpr c)
theorem eTa {xs : List α} : D.tup (xs.map e) = eT eD (xs.map e) := by simp
theorem eLa {xs : List α} : D.lst (xs.map e) = eL eD (xs.map e) := by simp
theorem pCatTD {xs ys zs : List D} (h : catZ xs ys = some zs) : primF (.bin .Add) [.tup xs, .tup ys] = some (.tup (zs.map eD)) := by
  have := pCatT (e := eD) h
  simpa using this
theorem pCatLD {xs ys zs : List D} (h : catZ xs ys = some zs) : primF (.bin .Add) [.lst xs, .lst ys] = some (.lst (zs.map eD)) := by
  have := pCatL (e := eD) h
  simpa using this
/-- a slot of which nothing is known but that no list of the frame's own lies there -/
abbrev dO (y : Option D) : Option Px.Slot := y.map Px.Slot.dat
/-! what holds behind a round of a loop -/
def FlK {σ β : Type} (R : σ → PEnv → Prop) (er : β → Px.Slot) : Fl σ β → Flw → PEnv → Prop
  | .nx s', fl, ρ' => (fl = .nx ∨ fl = .cnt) ∧ R s' ρ'
  | .brk s', fl, ρ' => fl = .brk ∧ R s' ρ'
  | .ret b, fl, _ => fl = .ret (er b)
theorem x_forK {ss : List S} {K : Flw → PEnv → Prop} {σ : Type} {ex : α → D} {tg : Bool × List Nat} {ik : IK} {ies : List E} {body : List S} {q : List D} {xs : List α} {s0 : σ} {o : Lo σ β} (R : σ → PEnv → Prop) (er : β → Px.Slot) (f : α → σ → Option (Fl σ β))
    (h1 : evs G ies ρ = .ok (q, ρ1)) (h2 : itemsOf ρ1 ik q = some (xs.map ex)) (h3 : freeB ik (tg.2 ++ wrs body) = true) (h0 : R s0 ρ1)
    (hb : ∀ x s r ρ', R s ρ' → f x s = some r → ∃ ρ2, setT ρ' tg (ex x) = some ρ2 ∧ X G body ρ2 fun fl ρ'' => sameB ik ρ1 ρ'' = true ∧ FlK R er r fl ρ'')
    (h : forS f xs s0 = some o) (k1 : ∀ s' ρ', o = .nx s' → R s' ρ' → X G ss ρ' K) (k2 : ∀ b ρ', o = .ret b → K (.ret (er b)) ρ') : X G (.loop tg ik ies body :: ss) ρ K :=
  x_for R er f h1 h2 h3 h0 (fun x s r ρ' a b => by
    obtain ⟨ρ2, c1, c2⟩ := hb x s r ρ' a b
    refine ⟨ρ2, c1, x_mono (fun fl ρ'' hk => ⟨hk.1, ?_⟩) c2⟩
    have hk := hk.2
    cases r <;> exact hk) h k1 k2
theorem x_whileK {ss : List S} {K : Flw → PEnv → Prop} {σ : Type} {c : Px.T} {body : List S} {s0 : σ} {o : Lo σ β} (R : σ → PEnv → Prop) (er : β → Px.Slot) (ct : σ → Option Bool) (f : σ → Option (Fl σ β))
    (h0 : R s0 ρ) (hc : ∀ s t ρ', R s ρ' → ct s = some t → ∃ ρ2, evT G c ρ' = .ok (t, ρ2) ∧ R s ρ2)
    (hb : ∀ s r ρ', R s ρ' → ct s = some true → f s = some r → X G body ρ' (FlK R er r))
    (h : whileS ct f wlim s0 = some o) (k1 : ∀ s' ρ', o = .nx s' → R s' ρ' → X G ss ρ' K) (k2 : ∀ b ρ', o = .ret b → K (.ret (er b)) ρ') : X G (.whil c body :: ss) ρ K :=
  x_while R er ct f h0 hc (fun s r ρ' a b d => by
    refine x_mono (fun fl ρ'' hk => ?_) (hb s r ρ' a b d)
    cases r <;> exact hk) h k1 k2
/-! like answers -/
def plB : Nat → D → Bool
  | 0, _ => false
  | n + 1, .int _ => true
  | n + 1, .bl _ => true
  | n + 1, .non => true
  | n + 1, .str _ => false
  | n + 1, .obj _ _ _ => false
  | n + 1, .tup xs => decide (xs.length < lim) && xs.all (plB n)
  | n + 1, .lst xs => decide (xs.length < lim) && xs.all (plB n)
theorem plB_ok : ∀ (n : Nat) (d : D), plB n d = true → Pl n d
  | 0, _, h => by cases h
  | n + 1, .int _, h => trivial
  | n + 1, .bl _, h => trivial
  | n + 1, .non, h => trivial
  | n + 1, .tup xs, h => by
    have h : (decide (xs.length < lim) && xs.all (plB n)) = true := h
    rw [Bool.and_eq_true] at h
    exact ⟨of_decide_eq_true h.1, fun x hx => plB_ok n x (List.all_eq_true.mp h.2 x hx)⟩
  | n + 1, .lst xs, h => by
    have h : (decide (xs.length < lim) && xs.all (plB n)) = true := h
    rw [Bool.and_eq_true] at h
    exact ⟨of_decide_eq_true h.1, fun x hx => plB_ok n x (List.all_eq_true.mp h.2 x hx)⟩
def sameZ (d e : D) : Option Bool := if d = e ∧ plB 9 d = true then some true else none
theorem same_call {ds : List Def} (hf : fnd ds "_law_same" = some d_law_same) {k : Nat} {d e : D} {v : Bool} (h : sameZ d e = some v) : callV (sigOf ds (k + 9)) "_law_same" [d, e] = .ok (.dat (.bl v)) := by
  unfold sameZ at h
  split at h
  · rename_i c
    cases h
    obtain ⟨rfl, c⟩ := c
    exact same_refl hf 9 (k + 9) d (by omega) (plB_ok 9 d c)
  · cases h
end
end Tv

set_option Elab.async false
set_option linter.all false
set_option maxRecDepth 100000
set_option maxHeartbeats 2000000
/-! the draw `_law_next` -/
namespace Py
open PySem L2 Px
theorem p_ixl0 {x : D} {xs : List D} : primF .ix [.lst (x :: xs), .int 0] = some x := atI_0
theorem p_ixl1 {x y : D} {xs : List D} : primF .ix [.lst (x :: y :: xs), .int 1] = some y := atI_1
theorem p_ixl2 {x y z : D} {xs : List D} : primF .ix [.lst (x :: y :: z :: xs), .int 2] = some z := atI_2
theorem p_ixl3 {x y z w : D} {xs : List D} : primF .ix [.lst (x :: y :: z :: w :: xs), .int 3] = some w := atI_3
theorem wp_setd {G : Sig} {i : Nat} {e : E} {d : D} {ss : List S} {ρ : PEnv} {K : Flw → PEnv → Prop} (h : pv G e ρ = some d) (q : WP G ss (ρ.set i (some (.dat d))) K) : WP G (.set false i e :: ss) ρ K := by
  rw [WP_set]
  refine ⟨(.dat d, ρ), ?_, q⟩
  show (pv G e ρ).map _ = _
  rw [h]; rfl
theorem wp_seti1 {G : Sig} {i : Nat} {ix e : E} {d : D} {xs ys : List D} {j : Int} {ss : List S} {ρ : PEnv} {K : Flw → PEnv → Prop} (h : pv G e ρ = some d) (h0 : getS ρ i = some (.own xs)) (h1 : pv G ix ρ = some (.int j)) (h2 : setAt xs j d = some ys) (q : WP G ss (ρ.set i (some (.own ys))) K) : WP G (.seti i ix e :: ss) ρ K := by
  rw [WP_seti]
  exact ⟨d, h, xs, h0, j, h1, ys, h2, q⟩
theorem wp_iteT {G : Sig} {c : Px.T} {a b ss : List S} {ρ : PEnv} {K : Flw → PEnv → Prop} (h : pvT G c ρ = some true) (q : WP G a ρ fun fl ρ' => match fl with | .nx => WP G ss ρ' K | f => K f ρ') : WP G (.ite c a b :: ss) ρ K := by
  rw [WP_ite]
  exact ⟨true, h, fun _ => q, fun h => by cases h⟩
theorem wp_iteF {G : Sig} {c : Px.T} {a b ss : List S} {ρ : PEnv} {K : Flw → PEnv → Prop} (h : pvT G c ρ = some false) (q : WP G b ρ fun fl ρ' => match fl with | .nx => WP G ss ρ' K | f => K f ρ') : WP G (.ite c a b :: ss) ρ K := by
  rw [WP_ite]
  exact ⟨false, h, (fun h => by cases h), fun _ => q⟩
theorem wp_ret2 {G : Sig} {p : P} {as : List Ar} {v : Int} {ss : List S} {ρ : PEnv} {K : Flw → PEnv → Prop} (h : pv G (.prim p as) ρ = some (.int v)) (q : K (.ret (.dat (.int v))) ρ) : WP G (.ret (.prim p as) :: ss) ρ K := by
  rw [WP_ret]
  refine ⟨(.dat (.int v), ρ), ?_, q⟩
  show (pv G (.prim p as) ρ).bind _ = _
  rw [h, oB]
  cases freshP p <;> rfl
theorem wp_end {G : Sig} {ρ : PEnv} {K : Flw → PEnv → Prop} (q : K .nx ρ) : WP G [] ρ K := by rw [WP_nil]; exact q
def d_law_next : Def := { nm := "_law_next", N := ["tape", "many", "rest", "cell"], np := 2, body := [
    .set false 2 (.prim .ix [.slot 0, .ex (.con (.int 2))]),
    .ite (.val (.ex (.prim (.cmp .Eq) [.slot 2, .ex (.con (.int 0))]))) [
    .set false 3 (.con (.int 0)),
    .ite (.val (.ex (.prim (.cmp .Lt) [.ex (.prim .ix [.slot 0, .ex (.con (.int 1))]), .ex (.prim (.bi .len) [.ex (.prim .ix [.slot 0, .ex (.con (.int 0))])])]))) [
    .set false 3 (.prim (.bi .abs) [.ex (.prim (.bi .int) [.ex (.prim .ix [.ex (.prim .ix [.slot 0, .ex (.con (.int 0))]), .ex (.prim .ix [.slot 0, .ex (.con (.int 1))])])])]),
    .seti 0 (.con (.int 1)) (.prim (.bin .Add) [.ex (.prim .ix [.slot 0, .ex (.con (.int 1))]), .ex (.con (.int 1))])] [],
    .set false 2 (.var 3),
    .ite (.val (.ex (.prim (.cmp .Lt) [.slot 3, .ex (.prim (.bin .Pow) [.ex (.con (.int 10)), .ex (.con (.int 18))])]))) [
    .seti 0 (.con (.int 3)) (.prim (.bin .Mod) [.ex (.prim (.bi .int) [.ex (.prim (.bin .Add) [.ex (.prim (.bin .Add) [.ex (.prim (.bin .Mult) [.ex (.prim .ix [.slot 0, .ex (.con (.int 3))]), .ex (.con (.int 69621))]), .ex (.prim (.bin .Mult) [.slot 3, .ex (.con (.int 40692))])]), .ex (.con (.int 17))])]), .ex (.con (.int 2147483647))]),
    .ret (.prim (.bin .Mod) [.ex (.prim (.bin .Mod) [.ex (.prim (.bi .int) [.ex (.prim (.bin .Mult) [.ex (.prim (.bi .int) [.ex (.prim (.bin .FloorDiv) [.ex (.prim .ix [.slot 0, .ex (.con (.int 3))]), .ex (.con (.int 5))])]), .ex (.con (.int 48271))])]), .ex (.con (.int 2147483647))]), .slot 1])] []] [],
    .seti 0 (.con (.int 2)) (.prim (.bin .FloorDiv) [.slot 2, .slot 1]),
    .ret (.prim (.bin .Mod) [.ex (.prim (.bi .int) [.slot 2]), .slot 1])] }
def nextM : List S := [
    .set false 2 (.var 3),
    .ite (.val (.ex (.prim (.cmp .Lt) [.slot 3, .ex (.prim (.bin .Pow) [.ex (.con (.int 10)), .ex (.con (.int 18))])]))) [
    .seti 0 (.con (.int 3)) (.prim (.bin .Mod) [.ex (.prim (.bi .int) [.ex (.prim (.bin .Add) [.ex (.prim (.bin .Add) [.ex (.prim (.bin .Mult) [.ex (.prim .ix [.slot 0, .ex (.con (.int 3))]), .ex (.con (.int 69621))]), .ex (.prim (.bin .Mult) [.slot 3, .ex (.con (.int 40692))])]), .ex (.con (.int 17))])]), .ex (.con (.int 2147483647))]),
    .ret (.prim (.bin .Mod) [.ex (.prim (.bin .Mod) [.ex (.prim (.bi .int) [.ex (.prim (.bin .Mult) [.ex (.prim (.bi .int) [.ex (.prim (.bin .FloorDiv) [.ex (.prim .ix [.slot 0, .ex (.con (.int 3))]), .ex (.con (.int 5))])]), .ex (.con (.int 48271))])]), .ex (.con (.int 2147483647))]), .slot 1])] []]
theorem next_eq : d_law_next.body = [.set false 2 (.prim .ix [.slot 0, .ex (.con (.int 2))]), .ite (.val (.ex (.prim (.cmp .Eq) [.slot 2, .ex (.con (.int 0))]))) (.set false 3 (.con (.int 0)) :: .ite (.val (.ex (.prim (.cmp .Lt) [.ex (.prim .ix [.slot 0, .ex (.con (.int 1))]), .ex (.prim (.bi .len) [.ex (.prim .ix [.slot 0, .ex (.con (.int 0))])])]))) [
    .set false 3 (.prim (.bi .abs) [.ex (.prim (.bi .int) [.ex (.prim .ix [.ex (.prim .ix [.slot 0, .ex (.con (.int 0))]), .ex (.prim .ix [.slot 0, .ex (.con (.int 1))])])])]),
    .seti 0 (.con (.int 1)) (.prim (.bin .Add) [.ex (.prim .ix [.slot 0, .ex (.con (.int 1))]), .ex (.con (.int 1))])] [] :: nextM) [], .seti 0 (.con (.int 2)) (.prim (.bin .FloorDiv) [.slot 2, .slot 1]), .ret (.prim (.bin .Mod) [.ex (.prim (.bi .int) [.slot 2]), .slot 1])] := rfl
def tape (ns : List Int) (i : Nat) (r s : Int) : List D := [.lst (I ns), .int i, .int r, .int s]
def GoodN (st : List D) : Prop := ∃ ns i r s, st = tape ns i r s ∧ ns.length ≤ 63 ∧ i ≤ 63 ∧ 0 ≤ s ∧ s < 2147483648
def NK (n : Int) : Flw → PEnv → Prop := fun fl ρ' => ∃ v st', fl = .ret (.dat (.int v)) ∧ getS ρ' 0 = some (.own st') ∧ GoodN st' ∧ 0 ≤ v ∧ v < n
theorem pow18 : primF (.bin .Pow) [.int 10, .int 18] = some (.int 1000000000000000000) := by decide
/-- the last two statements -/
theorem next_end {G : Sig} {n : Int} (hn : 0 < n) (hn2 : n < 1073741824) {ns : List Int} {i : Nat} {r s : Int} {y : Option Px.Slot} (hl : ns.length ≤ 63) (hi : i ≤ 63) (hs : 0 ≤ s) (hs2 : s < 2147483648) {R : Int} :
    WP G [.seti 0 (.con (.int 2)) (.prim (.bin .FloorDiv) [.slot 2, .slot 1]), .ret (.prim (.bin .Mod) [.ex (.prim (.bi .int) [.slot 2]), .slot 1])] [some (.own (tape ns i r s)), some (.dat (.int n)), some (.dat (.int R)), y] (NK n) := by
  refine wp_seti1 (d := .int (R / n)) (j := 2) (xs := tape ns i r s) (ys := tape ns i (R / n) s) (by simp (disch := (first | assumption | omega | (simp; done) | (simp; omega))) [oB, pv_var, pv_con, pv_prim, pv_dsp, pv_bop, pv_not, pv_ite, pv_call, pv_isi, pv_comp, pv_comp2, pvT_bop, pvT_not, pvT_val, pa_slot, pa_ex, pas_nil, pas_cons, pxs_nil, pxs_cons, pvs_nil, pvs_cons, pvC_nil, pvC_cons, pvB_one, pvB_more, pvo, pvc, bopF_and, bopF_or, bopF_ff, bopF_tt, bopF_tf, bopF_ft, cTF_and, cTF_or, cTF_ff, cTF_tt, cTF_tf, cTF_ft, cTF_dT, cTF_dF, cTF_nT, cTF_nF, bopF_dT, bopF_dF, bopF_nT, bopF_nF, iS_and, iS_or, iS_nand, iS_nor, iD_and, iD_or, iD_nand, iD_nor, iteF_t, iteF_f, iteF_ite, iD_ite, dspF_t, dspF_l, notF_b, okC, guardO_t, getS_0, getS_s, Slot.frz, Slot.rd, isOwn, isOwnL, wipeP, setT, setT.go, itemsOf, seqOf, ckB, isBrw, sameB, List.set_cons_zero, List.set_cons_succ, isiF, freshP, p_ltT, p_mulT, p_mulL, I_rep, p_mul, ltlim, lelim, abs_nat, p_minD, a_add, a_sub, a_mul, a_fd, a_md, p_add, p_sub, p_fd, p_md, p_addT, p_addL, p_neg, p_eq, p_ne, p_eqb, p_neb, p_lt, p_le, p_gt, p_ge, p_eqT, p_neT, p_eqT0, p_neT0, p_eqT00, p_neT00, p_eqL00, p_neL00, p_eqL, p_neL, p_eqL0, p_neL0, p_ixT, p_ixL, p_ixW, p_ixWT, p_loT, p_hiT, p_slT, p_loL, p_hiL, p_slL, p_lenT, p_lenL, p_tupT, p_tupL, p_lstT, p_lstL, p_sum, p_all, p_any, p_max2, p_min2, p_abs, p_int, p_intb, p_trev, t_bl, t_int, t_non, t_tup, t_lst, rng1, rng2, WP_nil, WP_set, WP_upk, WP_par, WP_aug, WP_seti, WP_app, WP_ret, WP_retN, WP_ite, WP_brk, WP_cnt, WP_nop, Fv, I_map, WW_map, B_map, I_rev, I_empty, compQ_nil, compQ_cons, compB_nil, mkL_nil, compQ_map, compQ_rg, compQ_some, compQ_all, compB_some, stp_t, stp_b, N_map, N_flt, N_map', N_flt', M_map, M_flt, M_map', M_flt', compB_map, compB_rg, BN_map, BM_map, BN_map', BM_map', flt_true, compQ_I, compQ_WW, compB_I, compB_WW, flat_WW, flat_I, mkL_I, mkL_WW, mkL_B, mkL_Ifm, mkL_WWfm, mkL_WWf, map_tupI, map_int, map_bl, tn_add, tn_sub, tn_add1, tn_1add, Option.isSome_some, -Prod.exists, -Prod.forall, -Option.bind_some, -Option.map_some, -Option.bind_fun_some, -Bool.exists_bool, -Bool.forall_bool, -ite_eq_left_iff, -ite_eq_right_iff]) rfl (by simp (disch := (first | assumption | omega | (simp; done) | (simp; omega))) [oB, pv_var, pv_con, pv_prim, pv_dsp, pv_bop, pv_not, pv_ite, pv_call, pv_isi, pv_comp, pv_comp2, pvT_bop, pvT_not, pvT_val, pa_slot, pa_ex, pas_nil, pas_cons, pxs_nil, pxs_cons, pvs_nil, pvs_cons, pvC_nil, pvC_cons, pvB_one, pvB_more, pvo, pvc, bopF_and, bopF_or, bopF_ff, bopF_tt, bopF_tf, bopF_ft, cTF_and, cTF_or, cTF_ff, cTF_tt, cTF_tf, cTF_ft, cTF_dT, cTF_dF, cTF_nT, cTF_nF, bopF_dT, bopF_dF, bopF_nT, bopF_nF, iS_and, iS_or, iS_nand, iS_nor, iD_and, iD_or, iD_nand, iD_nor, iteF_t, iteF_f, iteF_ite, iD_ite, dspF_t, dspF_l, notF_b, okC, guardO_t, getS_0, getS_s, Slot.frz, Slot.rd, isOwn, isOwnL, wipeP, setT, setT.go, itemsOf, seqOf, ckB, isBrw, sameB, List.set_cons_zero, List.set_cons_succ, isiF, freshP, p_ltT, p_mulT, p_mulL, I_rep, p_mul, ltlim, lelim, abs_nat, p_minD, a_add, a_sub, a_mul, a_fd, a_md, p_add, p_sub, p_fd, p_md, p_addT, p_addL, p_neg, p_eq, p_ne, p_eqb, p_neb, p_lt, p_le, p_gt, p_ge, p_eqT, p_neT, p_eqT0, p_neT0, p_eqT00, p_neT00, p_eqL00, p_neL00, p_eqL, p_neL, p_eqL0, p_neL0, p_ixT, p_ixL, p_ixW, p_ixWT, p_loT, p_hiT, p_slT, p_loL, p_hiL, p_slL, p_lenT, p_lenL, p_tupT, p_tupL, p_lstT, p_lstL, p_sum, p_all, p_any, p_max2, p_min2, p_abs, p_int, p_intb, p_trev, t_bl, t_int, t_non, t_tup, t_lst, rng1, rng2, WP_nil, WP_set, WP_upk, WP_par, WP_aug, WP_seti, WP_app, WP_ret, WP_retN, WP_ite, WP_brk, WP_cnt, WP_nop, Fv, I_map, WW_map, B_map, I_rev, I_empty, compQ_nil, compQ_cons, compB_nil, mkL_nil, compQ_map, compQ_rg, compQ_some, compQ_all, compB_some, stp_t, stp_b, N_map, N_flt, N_map', N_flt', M_map, M_flt, M_map', M_flt', compB_map, compB_rg, BN_map, BM_map, BN_map', BM_map', flt_true, compQ_I, compQ_WW, compB_I, compB_WW, flat_WW, flat_I, mkL_I, mkL_WW, mkL_B, mkL_Ifm, mkL_WWfm, mkL_WWf, map_tupI, map_int, map_bl, tn_add, tn_sub, tn_add1, tn_1add, Option.isSome_some, -Prod.exists, -Prod.forall, -Option.bind_some, -Option.map_some, -Option.bind_fun_some, -Bool.exists_bool, -Bool.forall_bool, -ite_eq_left_iff, -ite_eq_right_iff]) rfl ?_
  refine wp_ret2 (v := R % n) (by simp (disch := (first | assumption | omega | (simp; done) | (simp; omega))) [oB, pv_var, pv_con, pv_prim, pv_dsp, pv_bop, pv_not, pv_ite, pv_call, pv_isi, pv_comp, pv_comp2, pvT_bop, pvT_not, pvT_val, pa_slot, pa_ex, pas_nil, pas_cons, pxs_nil, pxs_cons, pvs_nil, pvs_cons, pvC_nil, pvC_cons, pvB_one, pvB_more, pvo, pvc, bopF_and, bopF_or, bopF_ff, bopF_tt, bopF_tf, bopF_ft, cTF_and, cTF_or, cTF_ff, cTF_tt, cTF_tf, cTF_ft, cTF_dT, cTF_dF, cTF_nT, cTF_nF, bopF_dT, bopF_dF, bopF_nT, bopF_nF, iS_and, iS_or, iS_nand, iS_nor, iD_and, iD_or, iD_nand, iD_nor, iteF_t, iteF_f, iteF_ite, iD_ite, dspF_t, dspF_l, notF_b, okC, guardO_t, getS_0, getS_s, Slot.frz, Slot.rd, isOwn, isOwnL, wipeP, setT, setT.go, itemsOf, seqOf, ckB, isBrw, sameB, List.set_cons_zero, List.set_cons_succ, isiF, freshP, p_ltT, p_mulT, p_mulL, I_rep, p_mul, ltlim, lelim, abs_nat, p_minD, a_add, a_sub, a_mul, a_fd, a_md, p_add, p_sub, p_fd, p_md, p_addT, p_addL, p_neg, p_eq, p_ne, p_eqb, p_neb, p_lt, p_le, p_gt, p_ge, p_eqT, p_neT, p_eqT0, p_neT0, p_eqT00, p_neT00, p_eqL00, p_neL00, p_eqL, p_neL, p_eqL0, p_neL0, p_ixT, p_ixL, p_ixW, p_ixWT, p_loT, p_hiT, p_slT, p_loL, p_hiL, p_slL, p_lenT, p_lenL, p_tupT, p_tupL, p_lstT, p_lstL, p_sum, p_all, p_any, p_max2, p_min2, p_abs, p_int, p_intb, p_trev, t_bl, t_int, t_non, t_tup, t_lst, rng1, rng2, WP_nil, WP_set, WP_upk, WP_par, WP_aug, WP_seti, WP_app, WP_ret, WP_retN, WP_ite, WP_brk, WP_cnt, WP_nop, Fv, I_map, WW_map, B_map, I_rev, I_empty, compQ_nil, compQ_cons, compB_nil, mkL_nil, compQ_map, compQ_rg, compQ_some, compQ_all, compB_some, stp_t, stp_b, N_map, N_flt, N_map', N_flt', M_map, M_flt, M_map', M_flt', compB_map, compB_rg, BN_map, BM_map, BN_map', BM_map', flt_true, compQ_I, compQ_WW, compB_I, compB_WW, flat_WW, flat_I, mkL_I, mkL_WW, mkL_B, mkL_Ifm, mkL_WWfm, mkL_WWf, map_tupI, map_int, map_bl, tn_add, tn_sub, tn_add1, tn_1add, Option.isSome_some, -Prod.exists, -Prod.forall, -Option.bind_some, -Option.map_some, -Option.bind_fun_some, -Bool.exists_bool, -Bool.forall_bool, -ite_eq_left_iff, -ite_eq_right_iff]) ?_
  exact ⟨_, _, rfl, rfl, ⟨ns, i, R / n, s, rfl, hl, hi, hs, hs2⟩, Int.emod_nonneg _ (by omega), Int.emod_lt_of_pos _ hn⟩
theorem next_mid {G : Sig} {n : Int} (hn : 0 < n) (hn2 : n < 1073741824) {ns : List Int} {i : Nat} {r s c : Int} (hl : ns.length ≤ 63) (hi : i ≤ 63) (hs : 0 ≤ s) (hs2 : s < 2147483648) (hc : 0 ≤ c) {y : Option Px.Slot} {K : Flw → PEnv → Prop}
    (hK : ∀ y, K .nx [some (.own (tape ns i r s)), some (.dat (.int n)), some (.dat (.int c)), y]) (hK2 : ∀ d ρ', NK n (.ret d) ρ' → K (.ret d) ρ') :
    WP G nextM [some (.own (tape ns i r s)), some (.dat (.int n)), y, some (.dat (.int c))] K := by
  unfold nextM
  refine wp_setd (d := .int c) (by simp (disch := (first | assumption | omega | (simp; done) | (simp; omega))) [oB, pv_var, pv_con, pv_prim, pv_dsp, pv_bop, pv_not, pv_ite, pv_call, pv_isi, pv_comp, pv_comp2, pvT_bop, pvT_not, pvT_val, pa_slot, pa_ex, pas_nil, pas_cons, pxs_nil, pxs_cons, pvs_nil, pvs_cons, pvC_nil, pvC_cons, pvB_one, pvB_more, pvo, pvc, bopF_and, bopF_or, bopF_ff, bopF_tt, bopF_tf, bopF_ft, cTF_and, cTF_or, cTF_ff, cTF_tt, cTF_tf, cTF_ft, cTF_dT, cTF_dF, cTF_nT, cTF_nF, bopF_dT, bopF_dF, bopF_nT, bopF_nF, iS_and, iS_or, iS_nand, iS_nor, iD_and, iD_or, iD_nand, iD_nor, iteF_t, iteF_f, iteF_ite, iD_ite, dspF_t, dspF_l, notF_b, okC, guardO_t, getS_0, getS_s, Slot.frz, Slot.rd, isOwn, isOwnL, wipeP, setT, setT.go, itemsOf, seqOf, ckB, isBrw, sameB, List.set_cons_zero, List.set_cons_succ, isiF, freshP, p_ltT, p_mulT, p_mulL, I_rep, p_mul, ltlim, lelim, abs_nat, p_minD, a_add, a_sub, a_mul, a_fd, a_md, p_add, p_sub, p_fd, p_md, p_addT, p_addL, p_neg, p_eq, p_ne, p_eqb, p_neb, p_lt, p_le, p_gt, p_ge, p_eqT, p_neT, p_eqT0, p_neT0, p_eqT00, p_neT00, p_eqL00, p_neL00, p_eqL, p_neL, p_eqL0, p_neL0, p_ixT, p_ixL, p_ixW, p_ixWT, p_loT, p_hiT, p_slT, p_loL, p_hiL, p_slL, p_lenT, p_lenL, p_tupT, p_tupL, p_lstT, p_lstL, p_sum, p_all, p_any, p_max2, p_min2, p_abs, p_int, p_intb, p_trev, t_bl, t_int, t_non, t_tup, t_lst, rng1, rng2, WP_nil, WP_set, WP_upk, WP_par, WP_aug, WP_seti, WP_app, WP_ret, WP_retN, WP_ite, WP_brk, WP_cnt, WP_nop, Fv, I_map, WW_map, B_map, I_rev, I_empty, compQ_nil, compQ_cons, compB_nil, mkL_nil, compQ_map, compQ_rg, compQ_some, compQ_all, compB_some, stp_t, stp_b, N_map, N_flt, N_map', N_flt', M_map, M_flt, M_map', M_flt', compB_map, compB_rg, BN_map, BM_map, BN_map', BM_map', flt_true, compQ_I, compQ_WW, compB_I, compB_WW, flat_WW, flat_I, mkL_I, mkL_WW, mkL_B, mkL_Ifm, mkL_WWfm, mkL_WWf, map_tupI, map_int, map_bl, tn_add, tn_sub, tn_add1, tn_1add, Option.isSome_some, -Prod.exists, -Prod.forall, -Option.bind_some, -Option.map_some, -Option.bind_fun_some, -Bool.exists_bool, -Bool.forall_bool, -ite_eq_left_iff, -ite_eq_right_iff]) ?_
  by_cases h : c < 1000000000000000000
  · refine wp_iteT (by simp (disch := (first | assumption | omega | (simp; done) | (simp; omega))) [pow18, h, oB, pv_var, pv_con, pv_prim, pv_dsp, pv_bop, pv_not, pv_ite, pv_call, pv_isi, pv_comp, pv_comp2, pvT_bop, pvT_not, pvT_val, pa_slot, pa_ex, pas_nil, pas_cons, pxs_nil, pxs_cons, pvs_nil, pvs_cons, pvC_nil, pvC_cons, pvB_one, pvB_more, pvo, pvc, bopF_and, bopF_or, bopF_ff, bopF_tt, bopF_tf, bopF_ft, cTF_and, cTF_or, cTF_ff, cTF_tt, cTF_tf, cTF_ft, cTF_dT, cTF_dF, cTF_nT, cTF_nF, bopF_dT, bopF_dF, bopF_nT, bopF_nF, iS_and, iS_or, iS_nand, iS_nor, iD_and, iD_or, iD_nand, iD_nor, iteF_t, iteF_f, iteF_ite, iD_ite, dspF_t, dspF_l, notF_b, okC, guardO_t, getS_0, getS_s, Slot.frz, Slot.rd, isOwn, isOwnL, wipeP, setT, setT.go, itemsOf, seqOf, ckB, isBrw, sameB, List.set_cons_zero, List.set_cons_succ, isiF, freshP, p_ltT, p_mulT, p_mulL, I_rep, p_mul, ltlim, lelim, abs_nat, p_minD, a_add, a_sub, a_mul, a_fd, a_md, p_add, p_sub, p_fd, p_md, p_addT, p_addL, p_neg, p_eq, p_ne, p_eqb, p_neb, p_lt, p_le, p_gt, p_ge, p_eqT, p_neT, p_eqT0, p_neT0, p_eqT00, p_neT00, p_eqL00, p_neL00, p_eqL, p_neL, p_eqL0, p_neL0, p_ixT, p_ixL, p_ixW, p_ixWT, p_loT, p_hiT, p_slT, p_loL, p_hiL, p_slL, p_lenT, p_lenL, p_tupT, p_tupL, p_lstT, p_lstL, p_sum, p_all, p_any, p_max2, p_min2, p_abs, p_int, p_intb, p_trev, t_bl, t_int, t_non, t_tup, t_lst, rng1, rng2, WP_nil, WP_set, WP_upk, WP_par, WP_aug, WP_seti, WP_app, WP_ret, WP_retN, WP_ite, WP_brk, WP_cnt, WP_nop, Fv, I_map, WW_map, B_map, I_rev, I_empty, compQ_nil, compQ_cons, compB_nil, mkL_nil, compQ_map, compQ_rg, compQ_some, compQ_all, compB_some, stp_t, stp_b, N_map, N_flt, N_map', N_flt', M_map, M_flt, M_map', M_flt', compB_map, compB_rg, BN_map, BM_map, BN_map', BM_map', flt_true, compQ_I, compQ_WW, compB_I, compB_WW, flat_WW, flat_I, mkL_I, mkL_WW, mkL_B, mkL_Ifm, mkL_WWfm, mkL_WWf, map_tupI, map_int, map_bl, tn_add, tn_sub, tn_add1, tn_1add, Option.isSome_some, -Prod.exists, -Prod.forall, -Option.bind_some, -Option.map_some, -Option.bind_fun_some, -Bool.exists_bool, -Bool.forall_bool, -ite_eq_left_iff, -ite_eq_right_iff]) ?_
    refine wp_seti1 (d := .int ((s * 69621 + c * 40692 + 17) % 2147483647)) (j := 3) (xs := tape ns i r s) (ys := tape ns i r ((s * 69621 + c * 40692 + 17) % 2147483647)) (by simp (disch := (first | assumption | omega | (simp; done) | (simp; omega))) [tape, p_ixl3, oB, pv_var, pv_con, pv_prim, pv_dsp, pv_bop, pv_not, pv_ite, pv_call, pv_isi, pv_comp, pv_comp2, pvT_bop, pvT_not, pvT_val, pa_slot, pa_ex, pas_nil, pas_cons, pxs_nil, pxs_cons, pvs_nil, pvs_cons, pvC_nil, pvC_cons, pvB_one, pvB_more, pvo, pvc, bopF_and, bopF_or, bopF_ff, bopF_tt, bopF_tf, bopF_ft, cTF_and, cTF_or, cTF_ff, cTF_tt, cTF_tf, cTF_ft, cTF_dT, cTF_dF, cTF_nT, cTF_nF, bopF_dT, bopF_dF, bopF_nT, bopF_nF, iS_and, iS_or, iS_nand, iS_nor, iD_and, iD_or, iD_nand, iD_nor, iteF_t, iteF_f, iteF_ite, iD_ite, dspF_t, dspF_l, notF_b, okC, guardO_t, getS_0, getS_s, Slot.frz, Slot.rd, isOwn, isOwnL, wipeP, setT, setT.go, itemsOf, seqOf, ckB, isBrw, sameB, List.set_cons_zero, List.set_cons_succ, isiF, freshP, p_ltT, p_mulT, p_mulL, I_rep, p_mul, ltlim, lelim, abs_nat, p_minD, a_add, a_sub, a_mul, a_fd, a_md, p_add, p_sub, p_fd, p_md, p_addT, p_addL, p_neg, p_eq, p_ne, p_eqb, p_neb, p_lt, p_le, p_gt, p_ge, p_eqT, p_neT, p_eqT0, p_neT0, p_eqT00, p_neT00, p_eqL00, p_neL00, p_eqL, p_neL, p_eqL0, p_neL0, p_ixT, p_ixL, p_ixW, p_ixWT, p_loT, p_hiT, p_slT, p_loL, p_hiL, p_slL, p_lenT, p_lenL, p_tupT, p_tupL, p_lstT, p_lstL, p_sum, p_all, p_any, p_max2, p_min2, p_abs, p_int, p_intb, p_trev, t_bl, t_int, t_non, t_tup, t_lst, rng1, rng2, WP_nil, WP_set, WP_upk, WP_par, WP_aug, WP_seti, WP_app, WP_ret, WP_retN, WP_ite, WP_brk, WP_cnt, WP_nop, Fv, I_map, WW_map, B_map, I_rev, I_empty, compQ_nil, compQ_cons, compB_nil, mkL_nil, compQ_map, compQ_rg, compQ_some, compQ_all, compB_some, stp_t, stp_b, N_map, N_flt, N_map', N_flt', M_map, M_flt, M_map', M_flt', compB_map, compB_rg, BN_map, BM_map, BN_map', BM_map', flt_true, compQ_I, compQ_WW, compB_I, compB_WW, flat_WW, flat_I, mkL_I, mkL_WW, mkL_B, mkL_Ifm, mkL_WWfm, mkL_WWf, map_tupI, map_int, map_bl, tn_add, tn_sub, tn_add1, tn_1add, Option.isSome_some, -Prod.exists, -Prod.forall, -Option.bind_some, -Option.map_some, -Option.bind_fun_some, -Bool.exists_bool, -Bool.forall_bool, -ite_eq_left_iff, -ite_eq_right_iff]) rfl (by simp (disch := (first | assumption | omega | (simp; done) | (simp; omega))) [oB, pv_var, pv_con, pv_prim, pv_dsp, pv_bop, pv_not, pv_ite, pv_call, pv_isi, pv_comp, pv_comp2, pvT_bop, pvT_not, pvT_val, pa_slot, pa_ex, pas_nil, pas_cons, pxs_nil, pxs_cons, pvs_nil, pvs_cons, pvC_nil, pvC_cons, pvB_one, pvB_more, pvo, pvc, bopF_and, bopF_or, bopF_ff, bopF_tt, bopF_tf, bopF_ft, cTF_and, cTF_or, cTF_ff, cTF_tt, cTF_tf, cTF_ft, cTF_dT, cTF_dF, cTF_nT, cTF_nF, bopF_dT, bopF_dF, bopF_nT, bopF_nF, iS_and, iS_or, iS_nand, iS_nor, iD_and, iD_or, iD_nand, iD_nor, iteF_t, iteF_f, iteF_ite, iD_ite, dspF_t, dspF_l, notF_b, okC, guardO_t, getS_0, getS_s, Slot.frz, Slot.rd, isOwn, isOwnL, wipeP, setT, setT.go, itemsOf, seqOf, ckB, isBrw, sameB, List.set_cons_zero, List.set_cons_succ, isiF, freshP, p_ltT, p_mulT, p_mulL, I_rep, p_mul, ltlim, lelim, abs_nat, p_minD, a_add, a_sub, a_mul, a_fd, a_md, p_add, p_sub, p_fd, p_md, p_addT, p_addL, p_neg, p_eq, p_ne, p_eqb, p_neb, p_lt, p_le, p_gt, p_ge, p_eqT, p_neT, p_eqT0, p_neT0, p_eqT00, p_neT00, p_eqL00, p_neL00, p_eqL, p_neL, p_eqL0, p_neL0, p_ixT, p_ixL, p_ixW, p_ixWT, p_loT, p_hiT, p_slT, p_loL, p_hiL, p_slL, p_lenT, p_lenL, p_tupT, p_tupL, p_lstT, p_lstL, p_sum, p_all, p_any, p_max2, p_min2, p_abs, p_int, p_intb, p_trev, t_bl, t_int, t_non, t_tup, t_lst, rng1, rng2, WP_nil, WP_set, WP_upk, WP_par, WP_aug, WP_seti, WP_app, WP_ret, WP_retN, WP_ite, WP_brk, WP_cnt, WP_nop, Fv, I_map, WW_map, B_map, I_rev, I_empty, compQ_nil, compQ_cons, compB_nil, mkL_nil, compQ_map, compQ_rg, compQ_some, compQ_all, compB_some, stp_t, stp_b, N_map, N_flt, N_map', N_flt', M_map, M_flt, M_map', M_flt', compB_map, compB_rg, BN_map, BM_map, BN_map', BM_map', flt_true, compQ_I, compQ_WW, compB_I, compB_WW, flat_WW, flat_I, mkL_I, mkL_WW, mkL_B, mkL_Ifm, mkL_WWfm, mkL_WWf, map_tupI, map_int, map_bl, tn_add, tn_sub, tn_add1, tn_1add, Option.isSome_some, -Prod.exists, -Prod.forall, -Option.bind_some, -Option.map_some, -Option.bind_fun_some, -Bool.exists_bool, -Bool.forall_bool, -ite_eq_left_iff, -ite_eq_right_iff]) rfl ?_
    have m0 := Int.emod_nonneg (s * 69621 + c * 40692 + 17) (b := 2147483647) (by decide)
    have m1 := Int.emod_lt_of_pos (s * 69621 + c * 40692 + 17) (b := 2147483647) (by decide)
    generalize (s * 69621 + c * 40692 + 17) % 2147483647 = z at *
    refine wp_ret2 (v := z / 5 * 48271 % 2147483647 % n) (by simp (disch := (first | assumption | omega | (simp; done) | (simp; omega))) [tape, p_ixl3, oB, pv_var, pv_con, pv_prim, pv_dsp, pv_bop, pv_not, pv_ite, pv_call, pv_isi, pv_comp, pv_comp2, pvT_bop, pvT_not, pvT_val, pa_slot, pa_ex, pas_nil, pas_cons, pxs_nil, pxs_cons, pvs_nil, pvs_cons, pvC_nil, pvC_cons, pvB_one, pvB_more, pvo, pvc, bopF_and, bopF_or, bopF_ff, bopF_tt, bopF_tf, bopF_ft, cTF_and, cTF_or, cTF_ff, cTF_tt, cTF_tf, cTF_ft, cTF_dT, cTF_dF, cTF_nT, cTF_nF, bopF_dT, bopF_dF, bopF_nT, bopF_nF, iS_and, iS_or, iS_nand, iS_nor, iD_and, iD_or, iD_nand, iD_nor, iteF_t, iteF_f, iteF_ite, iD_ite, dspF_t, dspF_l, notF_b, okC, guardO_t, getS_0, getS_s, Slot.frz, Slot.rd, isOwn, isOwnL, wipeP, setT, setT.go, itemsOf, seqOf, ckB, isBrw, sameB, List.set_cons_zero, List.set_cons_succ, isiF, freshP, p_ltT, p_mulT, p_mulL, I_rep, p_mul, ltlim, lelim, abs_nat, p_minD, a_add, a_sub, a_mul, a_fd, a_md, p_add, p_sub, p_fd, p_md, p_addT, p_addL, p_neg, p_eq, p_ne, p_eqb, p_neb, p_lt, p_le, p_gt, p_ge, p_eqT, p_neT, p_eqT0, p_neT0, p_eqT00, p_neT00, p_eqL00, p_neL00, p_eqL, p_neL, p_eqL0, p_neL0, p_ixT, p_ixL, p_ixW, p_ixWT, p_loT, p_hiT, p_slT, p_loL, p_hiL, p_slL, p_lenT, p_lenL, p_tupT, p_tupL, p_lstT, p_lstL, p_sum, p_all, p_any, p_max2, p_min2, p_abs, p_int, p_intb, p_trev, t_bl, t_int, t_non, t_tup, t_lst, rng1, rng2, WP_nil, WP_set, WP_upk, WP_par, WP_aug, WP_seti, WP_app, WP_ret, WP_retN, WP_ite, WP_brk, WP_cnt, WP_nop, Fv, I_map, WW_map, B_map, I_rev, I_empty, compQ_nil, compQ_cons, compB_nil, mkL_nil, compQ_map, compQ_rg, compQ_some, compQ_all, compB_some, stp_t, stp_b, N_map, N_flt, N_map', N_flt', M_map, M_flt, M_map', M_flt', compB_map, compB_rg, BN_map, BM_map, BN_map', BM_map', flt_true, compQ_I, compQ_WW, compB_I, compB_WW, flat_WW, flat_I, mkL_I, mkL_WW, mkL_B, mkL_Ifm, mkL_WWfm, mkL_WWf, map_tupI, map_int, map_bl, tn_add, tn_sub, tn_add1, tn_1add, Option.isSome_some, -Prod.exists, -Prod.forall, -Option.bind_some, -Option.map_some, -Option.bind_fun_some, -Bool.exists_bool, -Bool.forall_bool, -ite_eq_left_iff, -ite_eq_right_iff]) ?_
    exact hK2 _ _ ⟨_, _, rfl, rfl, ⟨ns, i, r, z, rfl, hl, hi, m0, by omega⟩, Int.emod_nonneg _ (by omega), Int.emod_lt_of_pos _ hn⟩
  · refine wp_iteF (by simp (disch := (first | assumption | omega | (simp; done) | (simp; omega))) [pow18, h, oB, pv_var, pv_con, pv_prim, pv_dsp, pv_bop, pv_not, pv_ite, pv_call, pv_isi, pv_comp, pv_comp2, pvT_bop, pvT_not, pvT_val, pa_slot, pa_ex, pas_nil, pas_cons, pxs_nil, pxs_cons, pvs_nil, pvs_cons, pvC_nil, pvC_cons, pvB_one, pvB_more, pvo, pvc, bopF_and, bopF_or, bopF_ff, bopF_tt, bopF_tf, bopF_ft, cTF_and, cTF_or, cTF_ff, cTF_tt, cTF_tf, cTF_ft, cTF_dT, cTF_dF, cTF_nT, cTF_nF, bopF_dT, bopF_dF, bopF_nT, bopF_nF, iS_and, iS_or, iS_nand, iS_nor, iD_and, iD_or, iD_nand, iD_nor, iteF_t, iteF_f, iteF_ite, iD_ite, dspF_t, dspF_l, notF_b, okC, guardO_t, getS_0, getS_s, Slot.frz, Slot.rd, isOwn, isOwnL, wipeP, setT, setT.go, itemsOf, seqOf, ckB, isBrw, sameB, List.set_cons_zero, List.set_cons_succ, isiF, freshP, p_ltT, p_mulT, p_mulL, I_rep, p_mul, ltlim, lelim, abs_nat, p_minD, a_add, a_sub, a_mul, a_fd, a_md, p_add, p_sub, p_fd, p_md, p_addT, p_addL, p_neg, p_eq, p_ne, p_eqb, p_neb, p_lt, p_le, p_gt, p_ge, p_eqT, p_neT, p_eqT0, p_neT0, p_eqT00, p_neT00, p_eqL00, p_neL00, p_eqL, p_neL, p_eqL0, p_neL0, p_ixT, p_ixL, p_ixW, p_ixWT, p_loT, p_hiT, p_slT, p_loL, p_hiL, p_slL, p_lenT, p_lenL, p_tupT, p_tupL, p_lstT, p_lstL, p_sum, p_all, p_any, p_max2, p_min2, p_abs, p_int, p_intb, p_trev, t_bl, t_int, t_non, t_tup, t_lst, rng1, rng2, WP_nil, WP_set, WP_upk, WP_par, WP_aug, WP_seti, WP_app, WP_ret, WP_retN, WP_ite, WP_brk, WP_cnt, WP_nop, Fv, I_map, WW_map, B_map, I_rev, I_empty, compQ_nil, compQ_cons, compB_nil, mkL_nil, compQ_map, compQ_rg, compQ_some, compQ_all, compB_some, stp_t, stp_b, N_map, N_flt, N_map', N_flt', M_map, M_flt, M_map', M_flt', compB_map, compB_rg, BN_map, BM_map, BN_map', BM_map', flt_true, compQ_I, compQ_WW, compB_I, compB_WW, flat_WW, flat_I, mkL_I, mkL_WW, mkL_B, mkL_Ifm, mkL_WWfm, mkL_WWf, map_tupI, map_int, map_bl, tn_add, tn_sub, tn_add1, tn_1add, Option.isSome_some, -Prod.exists, -Prod.forall, -Option.bind_some, -Option.map_some, -Option.bind_fun_some, -Bool.exists_bool, -Bool.forall_bool, -ite_eq_left_iff, -ite_eq_right_iff]) ?_
    refine wp_end ?_
    refine wp_end ?_
    exact hK _
theorem next_body {G : Sig} {n : Int} (hn : 0 < n) (hn2 : n < 1073741824) {ns : List Int} {i : Nat} {r s : Int} (hl : ns.length ≤ 63) (hi : i ≤ 63) (hs : 0 ≤ s) (hs2 : s < 2147483648) :
    WP G d_law_next.body [some (.own (tape ns i r s)), some (.dat (.int n)), none, none] (NK n) := by
  rw [next_eq]
  refine wp_setd (d := .int r) (by simp (disch := (first | assumption | omega | (simp; done) | (simp; omega))) [tape, p_ixl2, oB, pv_var, pv_con, pv_prim, pv_dsp, pv_bop, pv_not, pv_ite, pv_call, pv_isi, pv_comp, pv_comp2, pvT_bop, pvT_not, pvT_val, pa_slot, pa_ex, pas_nil, pas_cons, pxs_nil, pxs_cons, pvs_nil, pvs_cons, pvC_nil, pvC_cons, pvB_one, pvB_more, pvo, pvc, bopF_and, bopF_or, bopF_ff, bopF_tt, bopF_tf, bopF_ft, cTF_and, cTF_or, cTF_ff, cTF_tt, cTF_tf, cTF_ft, cTF_dT, cTF_dF, cTF_nT, cTF_nF, bopF_dT, bopF_dF, bopF_nT, bopF_nF, iS_and, iS_or, iS_nand, iS_nor, iD_and, iD_or, iD_nand, iD_nor, iteF_t, iteF_f, iteF_ite, iD_ite, dspF_t, dspF_l, notF_b, okC, guardO_t, getS_0, getS_s, Slot.frz, Slot.rd, isOwn, isOwnL, wipeP, setT, setT.go, itemsOf, seqOf, ckB, isBrw, sameB, List.set_cons_zero, List.set_cons_succ, isiF, freshP, p_ltT, p_mulT, p_mulL, I_rep, p_mul, ltlim, lelim, abs_nat, p_minD, a_add, a_sub, a_mul, a_fd, a_md, p_add, p_sub, p_fd, p_md, p_addT, p_addL, p_neg, p_eq, p_ne, p_eqb, p_neb, p_lt, p_le, p_gt, p_ge, p_eqT, p_neT, p_eqT0, p_neT0, p_eqT00, p_neT00, p_eqL00, p_neL00, p_eqL, p_neL, p_eqL0, p_neL0, p_ixT, p_ixL, p_ixW, p_ixWT, p_loT, p_hiT, p_slT, p_loL, p_hiL, p_slL, p_lenT, p_lenL, p_tupT, p_tupL, p_lstT, p_lstL, p_sum, p_all, p_any, p_max2, p_min2, p_abs, p_int, p_intb, p_trev, t_bl, t_int, t_non, t_tup, t_lst, rng1, rng2, WP_nil, WP_set, WP_upk, WP_par, WP_aug, WP_seti, WP_app, WP_ret, WP_retN, WP_ite, WP_brk, WP_cnt, WP_nop, Fv, I_map, WW_map, B_map, I_rev, I_empty, compQ_nil, compQ_cons, compB_nil, mkL_nil, compQ_map, compQ_rg, compQ_some, compQ_all, compB_some, stp_t, stp_b, N_map, N_flt, N_map', N_flt', M_map, M_flt, M_map', M_flt', compB_map, compB_rg, BN_map, BM_map, BN_map', BM_map', flt_true, compQ_I, compQ_WW, compB_I, compB_WW, flat_WW, flat_I, mkL_I, mkL_WW, mkL_B, mkL_Ifm, mkL_WWfm, mkL_WWf, map_tupI, map_int, map_bl, tn_add, tn_sub, tn_add1, tn_1add, Option.isSome_some, -Prod.exists, -Prod.forall, -Option.bind_some, -Option.map_some, -Option.bind_fun_some, -Bool.exists_bool, -Bool.forall_bool, -ite_eq_left_iff, -ite_eq_right_iff]) ?_
  by_cases h : r = 0
  · refine wp_iteT (by simp (disch := (first | assumption | omega | (simp; done) | (simp; omega))) [h, oB, pv_var, pv_con, pv_prim, pv_dsp, pv_bop, pv_not, pv_ite, pv_call, pv_isi, pv_comp, pv_comp2, pvT_bop, pvT_not, pvT_val, pa_slot, pa_ex, pas_nil, pas_cons, pxs_nil, pxs_cons, pvs_nil, pvs_cons, pvC_nil, pvC_cons, pvB_one, pvB_more, pvo, pvc, bopF_and, bopF_or, bopF_ff, bopF_tt, bopF_tf, bopF_ft, cTF_and, cTF_or, cTF_ff, cTF_tt, cTF_tf, cTF_ft, cTF_dT, cTF_dF, cTF_nT, cTF_nF, bopF_dT, bopF_dF, bopF_nT, bopF_nF, iS_and, iS_or, iS_nand, iS_nor, iD_and, iD_or, iD_nand, iD_nor, iteF_t, iteF_f, iteF_ite, iD_ite, dspF_t, dspF_l, notF_b, okC, guardO_t, getS_0, getS_s, Slot.frz, Slot.rd, isOwn, isOwnL, wipeP, setT, setT.go, itemsOf, seqOf, ckB, isBrw, sameB, List.set_cons_zero, List.set_cons_succ, isiF, freshP, p_ltT, p_mulT, p_mulL, I_rep, p_mul, ltlim, lelim, abs_nat, p_minD, a_add, a_sub, a_mul, a_fd, a_md, p_add, p_sub, p_fd, p_md, p_addT, p_addL, p_neg, p_eq, p_ne, p_eqb, p_neb, p_lt, p_le, p_gt, p_ge, p_eqT, p_neT, p_eqT0, p_neT0, p_eqT00, p_neT00, p_eqL00, p_neL00, p_eqL, p_neL, p_eqL0, p_neL0, p_ixT, p_ixL, p_ixW, p_ixWT, p_loT, p_hiT, p_slT, p_loL, p_hiL, p_slL, p_lenT, p_lenL, p_tupT, p_tupL, p_lstT, p_lstL, p_sum, p_all, p_any, p_max2, p_min2, p_abs, p_int, p_intb, p_trev, t_bl, t_int, t_non, t_tup, t_lst, rng1, rng2, WP_nil, WP_set, WP_upk, WP_par, WP_aug, WP_seti, WP_app, WP_ret, WP_retN, WP_ite, WP_brk, WP_cnt, WP_nop, Fv, I_map, WW_map, B_map, I_rev, I_empty, compQ_nil, compQ_cons, compB_nil, mkL_nil, compQ_map, compQ_rg, compQ_some, compQ_all, compB_some, stp_t, stp_b, N_map, N_flt, N_map', N_flt', M_map, M_flt, M_map', M_flt', compB_map, compB_rg, BN_map, BM_map, BN_map', BM_map', flt_true, compQ_I, compQ_WW, compB_I, compB_WW, flat_WW, flat_I, mkL_I, mkL_WW, mkL_B, mkL_Ifm, mkL_WWfm, mkL_WWf, map_tupI, map_int, map_bl, tn_add, tn_sub, tn_add1, tn_1add, Option.isSome_some, -Prod.exists, -Prod.forall, -Option.bind_some, -Option.map_some, -Option.bind_fun_some, -Bool.exists_bool, -Bool.forall_bool, -ite_eq_left_iff, -ite_eq_right_iff]) ?_
    refine wp_setd (d := .int 0) (by simp (disch := (first | assumption | omega | (simp; done) | (simp; omega))) [oB, pv_var, pv_con, pv_prim, pv_dsp, pv_bop, pv_not, pv_ite, pv_call, pv_isi, pv_comp, pv_comp2, pvT_bop, pvT_not, pvT_val, pa_slot, pa_ex, pas_nil, pas_cons, pxs_nil, pxs_cons, pvs_nil, pvs_cons, pvC_nil, pvC_cons, pvB_one, pvB_more, pvo, pvc, bopF_and, bopF_or, bopF_ff, bopF_tt, bopF_tf, bopF_ft, cTF_and, cTF_or, cTF_ff, cTF_tt, cTF_tf, cTF_ft, cTF_dT, cTF_dF, cTF_nT, cTF_nF, bopF_dT, bopF_dF, bopF_nT, bopF_nF, iS_and, iS_or, iS_nand, iS_nor, iD_and, iD_or, iD_nand, iD_nor, iteF_t, iteF_f, iteF_ite, iD_ite, dspF_t, dspF_l, notF_b, okC, guardO_t, getS_0, getS_s, Slot.frz, Slot.rd, isOwn, isOwnL, wipeP, setT, setT.go, itemsOf, seqOf, ckB, isBrw, sameB, List.set_cons_zero, List.set_cons_succ, isiF, freshP, p_ltT, p_mulT, p_mulL, I_rep, p_mul, ltlim, lelim, abs_nat, p_minD, a_add, a_sub, a_mul, a_fd, a_md, p_add, p_sub, p_fd, p_md, p_addT, p_addL, p_neg, p_eq, p_ne, p_eqb, p_neb, p_lt, p_le, p_gt, p_ge, p_eqT, p_neT, p_eqT0, p_neT0, p_eqT00, p_neT00, p_eqL00, p_neL00, p_eqL, p_neL, p_eqL0, p_neL0, p_ixT, p_ixL, p_ixW, p_ixWT, p_loT, p_hiT, p_slT, p_loL, p_hiL, p_slL, p_lenT, p_lenL, p_tupT, p_tupL, p_lstT, p_lstL, p_sum, p_all, p_any, p_max2, p_min2, p_abs, p_int, p_intb, p_trev, t_bl, t_int, t_non, t_tup, t_lst, rng1, rng2, WP_nil, WP_set, WP_upk, WP_par, WP_aug, WP_seti, WP_app, WP_ret, WP_retN, WP_ite, WP_brk, WP_cnt, WP_nop, Fv, I_map, WW_map, B_map, I_rev, I_empty, compQ_nil, compQ_cons, compB_nil, mkL_nil, compQ_map, compQ_rg, compQ_some, compQ_all, compB_some, stp_t, stp_b, N_map, N_flt, N_map', N_flt', M_map, M_flt, M_map', M_flt', compB_map, compB_rg, BN_map, BM_map, BN_map', BM_map', flt_true, compQ_I, compQ_WW, compB_I, compB_WW, flat_WW, flat_I, mkL_I, mkL_WW, mkL_B, mkL_Ifm, mkL_WWfm, mkL_WWf, map_tupI, map_int, map_bl, tn_add, tn_sub, tn_add1, tn_1add, Option.isSome_some, -Prod.exists, -Prod.forall, -Option.bind_some, -Option.map_some, -Option.bind_fun_some, -Bool.exists_bool, -Bool.forall_bool, -ite_eq_left_iff, -ite_eq_right_iff]) ?_
    by_cases h2 : i < ns.length
    · refine wp_iteT (by simp (disch := (first | assumption | omega | (simp; done) | (simp; omega))) [tape, p_ixl0, p_ixl1, h2, oB, pv_var, pv_con, pv_prim, pv_dsp, pv_bop, pv_not, pv_ite, pv_call, pv_isi, pv_comp, pv_comp2, pvT_bop, pvT_not, pvT_val, pa_slot, pa_ex, pas_nil, pas_cons, pxs_nil, pxs_cons, pvs_nil, pvs_cons, pvC_nil, pvC_cons, pvB_one, pvB_more, pvo, pvc, bopF_and, bopF_or, bopF_ff, bopF_tt, bopF_tf, bopF_ft, cTF_and, cTF_or, cTF_ff, cTF_tt, cTF_tf, cTF_ft, cTF_dT, cTF_dF, cTF_nT, cTF_nF, bopF_dT, bopF_dF, bopF_nT, bopF_nF, iS_and, iS_or, iS_nand, iS_nor, iD_and, iD_or, iD_nand, iD_nor, iteF_t, iteF_f, iteF_ite, iD_ite, dspF_t, dspF_l, notF_b, okC, guardO_t, getS_0, getS_s, Slot.frz, Slot.rd, isOwn, isOwnL, wipeP, setT, setT.go, itemsOf, seqOf, ckB, isBrw, sameB, List.set_cons_zero, List.set_cons_succ, isiF, freshP, p_ltT, p_mulT, p_mulL, I_rep, p_mul, ltlim, lelim, abs_nat, p_minD, a_add, a_sub, a_mul, a_fd, a_md, p_add, p_sub, p_fd, p_md, p_addT, p_addL, p_neg, p_eq, p_ne, p_eqb, p_neb, p_lt, p_le, p_gt, p_ge, p_eqT, p_neT, p_eqT0, p_neT0, p_eqT00, p_neT00, p_eqL00, p_neL00, p_eqL, p_neL, p_eqL0, p_neL0, p_ixT, p_ixL, p_ixW, p_ixWT, p_loT, p_hiT, p_slT, p_loL, p_hiL, p_slL, p_lenT, p_lenL, p_tupT, p_tupL, p_lstT, p_lstL, p_sum, p_all, p_any, p_max2, p_min2, p_abs, p_int, p_intb, p_trev, t_bl, t_int, t_non, t_tup, t_lst, rng1, rng2, WP_nil, WP_set, WP_upk, WP_par, WP_aug, WP_seti, WP_app, WP_ret, WP_retN, WP_ite, WP_brk, WP_cnt, WP_nop, Fv, I_map, WW_map, B_map, I_rev, I_empty, compQ_nil, compQ_cons, compB_nil, mkL_nil, compQ_map, compQ_rg, compQ_some, compQ_all, compB_some, stp_t, stp_b, N_map, N_flt, N_map', N_flt', M_map, M_flt, M_map', M_flt', compB_map, compB_rg, BN_map, BM_map, BN_map', BM_map', flt_true, compQ_I, compQ_WW, compB_I, compB_WW, flat_WW, flat_I, mkL_I, mkL_WW, mkL_B, mkL_Ifm, mkL_WWfm, mkL_WWf, map_tupI, map_int, map_bl, tn_add, tn_sub, tn_add1, tn_1add, Option.isSome_some, -Prod.exists, -Prod.forall, -Option.bind_some, -Option.map_some, -Option.bind_fun_some, -Bool.exists_bool, -Bool.forall_bool, -ite_eq_left_iff, -ite_eq_right_iff]) ?_
      have ha : primF .ix [.lst (I ns), .int (i : Int)] = some (.int (nth ns i)) := by
        rw [p_ixL (by omega) (by omega)]; simp
      refine wp_setd (d := .int (if nth ns i < 0 then -nth ns i else nth ns i)) (by simp (disch := (first | assumption | omega | (simp; done) | (simp; omega))) [tape, p_ixl0, p_ixl1, ha, oB, pv_var, pv_con, pv_prim, pv_dsp, pv_bop, pv_not, pv_ite, pv_call, pv_isi, pv_comp, pv_comp2, pvT_bop, pvT_not, pvT_val, pa_slot, pa_ex, pas_nil, pas_cons, pxs_nil, pxs_cons, pvs_nil, pvs_cons, pvC_nil, pvC_cons, pvB_one, pvB_more, pvo, pvc, bopF_and, bopF_or, bopF_ff, bopF_tt, bopF_tf, bopF_ft, cTF_and, cTF_or, cTF_ff, cTF_tt, cTF_tf, cTF_ft, cTF_dT, cTF_dF, cTF_nT, cTF_nF, bopF_dT, bopF_dF, bopF_nT, bopF_nF, iS_and, iS_or, iS_nand, iS_nor, iD_and, iD_or, iD_nand, iD_nor, iteF_t, iteF_f, iteF_ite, iD_ite, dspF_t, dspF_l, notF_b, okC, guardO_t, getS_0, getS_s, Slot.frz, Slot.rd, isOwn, isOwnL, wipeP, setT, setT.go, itemsOf, seqOf, ckB, isBrw, sameB, List.set_cons_zero, List.set_cons_succ, isiF, freshP, p_ltT, p_mulT, p_mulL, I_rep, p_mul, ltlim, lelim, abs_nat, p_minD, a_add, a_sub, a_mul, a_fd, a_md, p_add, p_sub, p_fd, p_md, p_addT, p_addL, p_neg, p_eq, p_ne, p_eqb, p_neb, p_lt, p_le, p_gt, p_ge, p_eqT, p_neT, p_eqT0, p_neT0, p_eqT00, p_neT00, p_eqL00, p_neL00, p_eqL, p_neL, p_eqL0, p_neL0, p_ixT, p_ixL, p_ixW, p_ixWT, p_loT, p_hiT, p_slT, p_loL, p_hiL, p_slL, p_lenT, p_lenL, p_tupT, p_tupL, p_lstT, p_lstL, p_sum, p_all, p_any, p_max2, p_min2, p_abs, p_int, p_intb, p_trev, t_bl, t_int, t_non, t_tup, t_lst, rng1, rng2, WP_nil, WP_set, WP_upk, WP_par, WP_aug, WP_seti, WP_app, WP_ret, WP_retN, WP_ite, WP_brk, WP_cnt, WP_nop, Fv, I_map, WW_map, B_map, I_rev, I_empty, compQ_nil, compQ_cons, compB_nil, mkL_nil, compQ_map, compQ_rg, compQ_some, compQ_all, compB_some, stp_t, stp_b, N_map, N_flt, N_map', N_flt', M_map, M_flt, M_map', M_flt', compB_map, compB_rg, BN_map, BM_map, BN_map', BM_map', flt_true, compQ_I, compQ_WW, compB_I, compB_WW, flat_WW, flat_I, mkL_I, mkL_WW, mkL_B, mkL_Ifm, mkL_WWfm, mkL_WWf, map_tupI, map_int, map_bl, tn_add, tn_sub, tn_add1, tn_1add, Option.isSome_some, -Prod.exists, -Prod.forall, -Option.bind_some, -Option.map_some, -Option.bind_fun_some, -Bool.exists_bool, -Bool.forall_bool, -ite_eq_left_iff, -ite_eq_right_iff, -p_ixL]) ?_
      have hc : 0 ≤ (if nth ns i < 0 then -nth ns i else nth ns i) := by split <;> omega
      generalize (if nth ns i < 0 then -nth ns i else nth ns i) = c at *
      refine wp_seti1 (d := .int (i + 1 : Nat)) (j := 1) (xs := tape ns i r s) (ys := tape ns (i + 1) r s) (by simp (disch := (first | assumption | omega | (simp; done) | (simp; omega))) [tape, p_ixl1, oB, pv_var, pv_con, pv_prim, pv_dsp, pv_bop, pv_not, pv_ite, pv_call, pv_isi, pv_comp, pv_comp2, pvT_bop, pvT_not, pvT_val, pa_slot, pa_ex, pas_nil, pas_cons, pxs_nil, pxs_cons, pvs_nil, pvs_cons, pvC_nil, pvC_cons, pvB_one, pvB_more, pvo, pvc, bopF_and, bopF_or, bopF_ff, bopF_tt, bopF_tf, bopF_ft, cTF_and, cTF_or, cTF_ff, cTF_tt, cTF_tf, cTF_ft, cTF_dT, cTF_dF, cTF_nT, cTF_nF, bopF_dT, bopF_dF, bopF_nT, bopF_nF, iS_and, iS_or, iS_nand, iS_nor, iD_and, iD_or, iD_nand, iD_nor, iteF_t, iteF_f, iteF_ite, iD_ite, dspF_t, dspF_l, notF_b, okC, guardO_t, getS_0, getS_s, Slot.frz, Slot.rd, isOwn, isOwnL, wipeP, setT, setT.go, itemsOf, seqOf, ckB, isBrw, sameB, List.set_cons_zero, List.set_cons_succ, isiF, freshP, p_ltT, p_mulT, p_mulL, I_rep, p_mul, ltlim, lelim, abs_nat, p_minD, a_add, a_sub, a_mul, a_fd, a_md, p_add, p_sub, p_fd, p_md, p_addT, p_addL, p_neg, p_eq, p_ne, p_eqb, p_neb, p_lt, p_le, p_gt, p_ge, p_eqT, p_neT, p_eqT0, p_neT0, p_eqT00, p_neT00, p_eqL00, p_neL00, p_eqL, p_neL, p_eqL0, p_neL0, p_ixT, p_ixL, p_ixW, p_ixWT, p_loT, p_hiT, p_slT, p_loL, p_hiL, p_slL, p_lenT, p_lenL, p_tupT, p_tupL, p_lstT, p_lstL, p_sum, p_all, p_any, p_max2, p_min2, p_abs, p_int, p_intb, p_trev, t_bl, t_int, t_non, t_tup, t_lst, rng1, rng2, WP_nil, WP_set, WP_upk, WP_par, WP_aug, WP_seti, WP_app, WP_ret, WP_retN, WP_ite, WP_brk, WP_cnt, WP_nop, Fv, I_map, WW_map, B_map, I_rev, I_empty, compQ_nil, compQ_cons, compB_nil, mkL_nil, compQ_map, compQ_rg, compQ_some, compQ_all, compB_some, stp_t, stp_b, N_map, N_flt, N_map', N_flt', M_map, M_flt, M_map', M_flt', compB_map, compB_rg, BN_map, BM_map, BN_map', BM_map', flt_true, compQ_I, compQ_WW, compB_I, compB_WW, flat_WW, flat_I, mkL_I, mkL_WW, mkL_B, mkL_Ifm, mkL_WWfm, mkL_WWf, map_tupI, map_int, map_bl, tn_add, tn_sub, tn_add1, tn_1add, Option.isSome_some, -Prod.exists, -Prod.forall, -Option.bind_some, -Option.map_some, -Option.bind_fun_some, -Bool.exists_bool, -Bool.forall_bool, -ite_eq_left_iff, -ite_eq_right_iff]) rfl (by simp (disch := (first | assumption | omega | (simp; done) | (simp; omega))) [oB, pv_var, pv_con, pv_prim, pv_dsp, pv_bop, pv_not, pv_ite, pv_call, pv_isi, pv_comp, pv_comp2, pvT_bop, pvT_not, pvT_val, pa_slot, pa_ex, pas_nil, pas_cons, pxs_nil, pxs_cons, pvs_nil, pvs_cons, pvC_nil, pvC_cons, pvB_one, pvB_more, pvo, pvc, bopF_and, bopF_or, bopF_ff, bopF_tt, bopF_tf, bopF_ft, cTF_and, cTF_or, cTF_ff, cTF_tt, cTF_tf, cTF_ft, cTF_dT, cTF_dF, cTF_nT, cTF_nF, bopF_dT, bopF_dF, bopF_nT, bopF_nF, iS_and, iS_or, iS_nand, iS_nor, iD_and, iD_or, iD_nand, iD_nor, iteF_t, iteF_f, iteF_ite, iD_ite, dspF_t, dspF_l, notF_b, okC, guardO_t, getS_0, getS_s, Slot.frz, Slot.rd, isOwn, isOwnL, wipeP, setT, setT.go, itemsOf, seqOf, ckB, isBrw, sameB, List.set_cons_zero, List.set_cons_succ, isiF, freshP, p_ltT, p_mulT, p_mulL, I_rep, p_mul, ltlim, lelim, abs_nat, p_minD, a_add, a_sub, a_mul, a_fd, a_md, p_add, p_sub, p_fd, p_md, p_addT, p_addL, p_neg, p_eq, p_ne, p_eqb, p_neb, p_lt, p_le, p_gt, p_ge, p_eqT, p_neT, p_eqT0, p_neT0, p_eqT00, p_neT00, p_eqL00, p_neL00, p_eqL, p_neL, p_eqL0, p_neL0, p_ixT, p_ixL, p_ixW, p_ixWT, p_loT, p_hiT, p_slT, p_loL, p_hiL, p_slL, p_lenT, p_lenL, p_tupT, p_tupL, p_lstT, p_lstL, p_sum, p_all, p_any, p_max2, p_min2, p_abs, p_int, p_intb, p_trev, t_bl, t_int, t_non, t_tup, t_lst, rng1, rng2, WP_nil, WP_set, WP_upk, WP_par, WP_aug, WP_seti, WP_app, WP_ret, WP_retN, WP_ite, WP_brk, WP_cnt, WP_nop, Fv, I_map, WW_map, B_map, I_rev, I_empty, compQ_nil, compQ_cons, compB_nil, mkL_nil, compQ_map, compQ_rg, compQ_some, compQ_all, compB_some, stp_t, stp_b, N_map, N_flt, N_map', N_flt', M_map, M_flt, M_map', M_flt', compB_map, compB_rg, BN_map, BM_map, BN_map', BM_map', flt_true, compQ_I, compQ_WW, compB_I, compB_WW, flat_WW, flat_I, mkL_I, mkL_WW, mkL_B, mkL_Ifm, mkL_WWfm, mkL_WWf, map_tupI, map_int, map_bl, tn_add, tn_sub, tn_add1, tn_1add, Option.isSome_some, -Prod.exists, -Prod.forall, -Option.bind_some, -Option.map_some, -Option.bind_fun_some, -Bool.exists_bool, -Bool.forall_bool, -ite_eq_left_iff, -ite_eq_right_iff]) rfl ?_
      refine wp_end ?_
      refine next_mid hn hn2 hl (by omega) hs hs2 hc (fun y => ?_) fun d ρ' h => h
      exact next_end hn hn2 hl (by omega) hs hs2
    · refine wp_iteF (by simp (disch := (first | assumption | omega | (simp; done) | (simp; omega))) [tape, p_ixl0, p_ixl1, h2, oB, pv_var, pv_con, pv_prim, pv_dsp, pv_bop, pv_not, pv_ite, pv_call, pv_isi, pv_comp, pv_comp2, pvT_bop, pvT_not, pvT_val, pa_slot, pa_ex, pas_nil, pas_cons, pxs_nil, pxs_cons, pvs_nil, pvs_cons, pvC_nil, pvC_cons, pvB_one, pvB_more, pvo, pvc, bopF_and, bopF_or, bopF_ff, bopF_tt, bopF_tf, bopF_ft, cTF_and, cTF_or, cTF_ff, cTF_tt, cTF_tf, cTF_ft, cTF_dT, cTF_dF, cTF_nT, cTF_nF, bopF_dT, bopF_dF, bopF_nT, bopF_nF, iS_and, iS_or, iS_nand, iS_nor, iD_and, iD_or, iD_nand, iD_nor, iteF_t, iteF_f, iteF_ite, iD_ite, dspF_t, dspF_l, notF_b, okC, guardO_t, getS_0, getS_s, Slot.frz, Slot.rd, isOwn, isOwnL, wipeP, setT, setT.go, itemsOf, seqOf, ckB, isBrw, sameB, List.set_cons_zero, List.set_cons_succ, isiF, freshP, p_ltT, p_mulT, p_mulL, I_rep, p_mul, ltlim, lelim, abs_nat, p_minD, a_add, a_sub, a_mul, a_fd, a_md, p_add, p_sub, p_fd, p_md, p_addT, p_addL, p_neg, p_eq, p_ne, p_eqb, p_neb, p_lt, p_le, p_gt, p_ge, p_eqT, p_neT, p_eqT0, p_neT0, p_eqT00, p_neT00, p_eqL00, p_neL00, p_eqL, p_neL, p_eqL0, p_neL0, p_ixT, p_ixL, p_ixW, p_ixWT, p_loT, p_hiT, p_slT, p_loL, p_hiL, p_slL, p_lenT, p_lenL, p_tupT, p_tupL, p_lstT, p_lstL, p_sum, p_all, p_any, p_max2, p_min2, p_abs, p_int, p_intb, p_trev, t_bl, t_int, t_non, t_tup, t_lst, rng1, rng2, WP_nil, WP_set, WP_upk, WP_par, WP_aug, WP_seti, WP_app, WP_ret, WP_retN, WP_ite, WP_brk, WP_cnt, WP_nop, Fv, I_map, WW_map, B_map, I_rev, I_empty, compQ_nil, compQ_cons, compB_nil, mkL_nil, compQ_map, compQ_rg, compQ_some, compQ_all, compB_some, stp_t, stp_b, N_map, N_flt, N_map', N_flt', M_map, M_flt, M_map', M_flt', compB_map, compB_rg, BN_map, BM_map, BN_map', BM_map', flt_true, compQ_I, compQ_WW, compB_I, compB_WW, flat_WW, flat_I, mkL_I, mkL_WW, mkL_B, mkL_Ifm, mkL_WWfm, mkL_WWf, map_tupI, map_int, map_bl, tn_add, tn_sub, tn_add1, tn_1add, Option.isSome_some, -Prod.exists, -Prod.forall, -Option.bind_some, -Option.map_some, -Option.bind_fun_some, -Bool.exists_bool, -Bool.forall_bool, -ite_eq_left_iff, -ite_eq_right_iff]) ?_
      refine wp_end ?_
      refine next_mid hn hn2 hl hi hs hs2 (Int.le_refl 0) (fun y => ?_) fun d ρ' h => h
      exact next_end hn hn2 hl hi hs hs2
  · refine wp_iteF (by simp (disch := (first | assumption | omega | (simp; done) | (simp; omega))) [h, oB, pv_var, pv_con, pv_prim, pv_dsp, pv_bop, pv_not, pv_ite, pv_call, pv_isi, pv_comp, pv_comp2, pvT_bop, pvT_not, pvT_val, pa_slot, pa_ex, pas_nil, pas_cons, pxs_nil, pxs_cons, pvs_nil, pvs_cons, pvC_nil, pvC_cons, pvB_one, pvB_more, pvo, pvc, bopF_and, bopF_or, bopF_ff, bopF_tt, bopF_tf, bopF_ft, cTF_and, cTF_or, cTF_ff, cTF_tt, cTF_tf, cTF_ft, cTF_dT, cTF_dF, cTF_nT, cTF_nF, bopF_dT, bopF_dF, bopF_nT, bopF_nF, iS_and, iS_or, iS_nand, iS_nor, iD_and, iD_or, iD_nand, iD_nor, iteF_t, iteF_f, iteF_ite, iD_ite, dspF_t, dspF_l, notF_b, okC, guardO_t, getS_0, getS_s, Slot.frz, Slot.rd, isOwn, isOwnL, wipeP, setT, setT.go, itemsOf, seqOf, ckB, isBrw, sameB, List.set_cons_zero, List.set_cons_succ, isiF, freshP, p_ltT, p_mulT, p_mulL, I_rep, p_mul, ltlim, lelim, abs_nat, p_minD, a_add, a_sub, a_mul, a_fd, a_md, p_add, p_sub, p_fd, p_md, p_addT, p_addL, p_neg, p_eq, p_ne, p_eqb, p_neb, p_lt, p_le, p_gt, p_ge, p_eqT, p_neT, p_eqT0, p_neT0, p_eqT00, p_neT00, p_eqL00, p_neL00, p_eqL, p_neL, p_eqL0, p_neL0, p_ixT, p_ixL, p_ixW, p_ixWT, p_loT, p_hiT, p_slT, p_loL, p_hiL, p_slL, p_lenT, p_lenL, p_tupT, p_tupL, p_lstT, p_lstL, p_sum, p_all, p_any, p_max2, p_min2, p_abs, p_int, p_intb, p_trev, t_bl, t_int, t_non, t_tup, t_lst, rng1, rng2, WP_nil, WP_set, WP_upk, WP_par, WP_aug, WP_seti, WP_app, WP_ret, WP_retN, WP_ite, WP_brk, WP_cnt, WP_nop, Fv, I_map, WW_map, B_map, I_rev, I_empty, compQ_nil, compQ_cons, compB_nil, mkL_nil, compQ_map, compQ_rg, compQ_some, compQ_all, compB_some, stp_t, stp_b, N_map, N_flt, N_map', N_flt', M_map, M_flt, M_map', M_flt', compB_map, compB_rg, BN_map, BM_map, BN_map', BM_map', flt_true, compQ_I, compQ_WW, compB_I, compB_WW, flat_WW, flat_I, mkL_I, mkL_WW, mkL_B, mkL_Ifm, mkL_WWfm, mkL_WWf, map_tupI, map_int, map_bl, tn_add, tn_sub, tn_add1, tn_1add, Option.isSome_some, -Prod.exists, -Prod.forall, -Option.bind_some, -Option.map_some, -Option.bind_fun_some, -Bool.exists_bool, -Bool.forall_bool, -ite_eq_left_iff, -ite_eq_right_iff]) ?_
    refine wp_end ?_
    exact next_end hn hn2 hl hi hs hs2
end Py
namespace Tv
open PySem L2 Px Py
theorem drawF_next {ds : List Def} {k : Nat} {st : List D} {n : Int} (hg : GoodN st) (hn : 0 < n) (hn2 : n < 1073741824) : ∃ v st', drawF (runDef (sigOf ds k) d_law_next) st n = some (v, st') ∧ GoodN st' ∧ 0 ≤ v ∧ v < n := by
  obtain ⟨ns, i, r, s, rfl, hl, hi, hs, hs2⟩ := hg
  obtain ⟨fl, ρ', e, v, st', rfl, g, gd, v0, v1⟩ := WP_ok _ _ _ _ (next_body (G := sigOf ds k) hn hn2 (r := r) hl hi hs hs2)
  refine ⟨v, st', ?_, gd, v0, v1⟩
  have key : runDef (sigOf ds k) d_law_next [.own (tape ns i r s), .dat (.int n)] = .ok (.dat (.int v), ρ') := by
    unfold runDef
    rw [if_pos ⟨rfl, by decide⟩]
    show Out.bind (exs (sigOf ds k) d_law_next.body [some (.own (tape ns i r s)), some (.dat (.int n)), none, none]) _ = _
    rw [e, Out.bind_okS]
    have : ownArgs [.own (tape ns i r s), .dat (.int n)] (wrs d_law_next.body) ρ' = true := by
      have w : wrs d_law_next.body = [2, 3, 3, 2] := by decide
      rw [w]
      unfold ownArgs
      show ([0, 1].all _) = true
      simp [isOwn, isOwnL, g]
    rw [if_pos this]
  unfold drawF
  rw [key]
  simp only []
  rw [g]
end Tv

set_option Elab.async false
set_option linter.all false
set_option maxRecDepth 100000
set_option maxHeartbeats 2000000
/-! plain rules of the typed functions -/
namespace Tv
open PySem L2 Px Py
section
variable {α β γ σ : Type}
theorem oB {a : α} {f : α → Option β} : (some a).bind f = f a := rfl
theorem compO_map {f : α → β} : ∀ {xs : List α}, compO (fun x => some (some (f x))) xs = some (xs.map f)
  | [] => rfl
  | x :: xs => by unfold compO; rw [oB, compO_map, oB]; rfl
theorem compO_congr {f g : α → Option (Option β)} : ∀ {xs : List α}, (∀ x ∈ xs, f x = g x) → compO f xs = compO g xs
  | [], _ => rfl
  | x :: xs, h => by unfold compO; rw [h x (List.mem_cons_self ..), compO_congr fun y hy => h y (List.mem_cons_of_mem _ hy)]
/-- every item made -/
theorem compO_eq {F : α → Option (Option β)} {f : α → β} {xs : List α} (h : ∀ x ∈ xs, F x = some (some (f x))) : compO F xs = some (xs.map f) := by
  rw [compO_congr h, compO_map]
theorem compO_filter {f : α → β} {b : α → Bool} : ∀ {xs : List α}, compO (fun x => if b x = true then some (some (f x)) else some none) xs = some ((xs.filter b).map f)
  | [] => rfl
  | x :: xs => by
    unfold compO
    rw [compO_filter]
    cases h : b x <;> simp [h]
theorem compO_flt {F : α → Option (Option β)} {f : α → β} {b : α → Bool} {xs : List α} (h : ∀ x ∈ xs, F x = if b x = true then some (some (f x)) else some none) : compO F xs = some ((xs.filter b).map f) := by
  rw [compO_congr h, compO_filter]
theorem shortL_ok {xs : List α} (h : xs.length < 1000000) : shortL xs = some xs := by
  unfold shortL
  rw [if_pos (Nat.lt_trans h (by decide))]
theorem compO_len {F : α → Option (Option β)} {f : α → β} {xs : List α} (h : ∀ x ∈ xs, F x = some (some (f x))) (hl : xs.length < 1000000) : (compO F xs).bind shortL = some (xs.map f) := by
  rw [compO_eq h, oB, shortL_ok (by simpa using hl)]
theorem compO_fltl {F : α → Option (Option β)} {f : α → β} {b : α → Bool} {xs : List α} (h : ∀ x ∈ xs, F x = if b x = true then some (some (f x)) else some none) (hl : xs.length < 1000000) : (compO F xs).bind shortL = some ((xs.filter b).map f) := by
  rw [compO_flt h, oB, shortL_ok]
  rw [List.length_map]
  exact Nat.lt_of_le_of_lt (List.length_filter_le ..) hl
/-- a loop that looks for the first -/
theorem forS_find {F : α → Unit → Option (Fl Unit β)} {b : α → Bool} {r : α → β} : ∀ {xs : List α}, (∀ x ∈ xs, F x () = some (if b x = true then .ret (r x) else .nx ())) → forS F xs () = some (match xs.find? b with | some x => .ret (r x) | none => .nx ())
  | [], _ => rfl
  | x :: xs, h => by
    unfold forS
    rw [h x (List.mem_cons_self ..), oB, List.find?_cons]
    cases hb : b x with
    | true => rfl
    | false =>
      simp only [Bool.false_eq_true, if_false]
      exact forS_find fun y hy => h y (List.mem_cons_of_mem _ hy)
theorem rng0 {n : Nat} (h : n < 1000000) : rngZ 0 n = some ((List.range n).map fun (k : Nat) => (k : Int)) := by
  unfold rngZ
  have : okRng (n : Int) = true := by
    unfold okRng
    rw [Bool.and_eq_true, decide_eq_true_iff, decide_eq_true_iff]
    omega
  rw [if_pos (by rw [this]; decide)]
  simp
theorem rng1 {n : Nat} (h : n < 1000000) : rngZ 1 n = some ((List.range (n - 1)).map fun (k : Nat) => ((k + 1 : Nat) : Int)) := by
  unfold rngZ
  have : okRng (n : Int) = true := by
    unfold okRng
    rw [Bool.and_eq_true, decide_eq_true_iff, decide_eq_true_iff]
    omega
  rw [if_pos (by rw [this]; decide)]
  have e : ((n : Int) - 1).toNat = n - 1 := by omega
  rw [e]
  refine congrArg some ?_
  apply List.map_congr_left
  intro k hk
  omega
theorem catZ_ok {xs ys : List α} (h : xs.length + ys.length < 1000000) : catZ xs ys = some (xs ++ ys) := by
  unfold catZ
  rw [if_pos (Nat.le_of_lt (Nat.lt_trans h (by decide)))]
theorem eqT_ok {xs ys : List Int} (h1 : xs.length < 1000000) (h2 : ys.length < 1000000) : eqT xs ys = some (decide (xs = ys)) := by
  unfold eqT
  rw [if_pos ⟨h1, h2⟩]
theorem cntZ_ok {xs : List Int} {i : Int} (h1 : xs.length < 1000000) : cntZ xs i = some ((xs.count i : Nat) : Int) := by
  unfold cntZ
  rw [if_pos h1]
theorem cut_lo {xs : List α} {i : Nat} : cutZ xs (some (i : Int)) none = xs.drop i := by
  unfold cutZ
  rw [HT.sIx_nat, HT.sIx_none]
  by_cases h : i ≤ xs.length
  · rw [Nat.min_eq_left h, ← List.length_drop, List.take_length]
  · rw [Nat.min_eq_right (by omega), List.drop_of_length_le (by omega), List.drop_of_length_le (by omega)]; simp
theorem cut_hi {xs : List α} {i : Nat} : cutZ xs none (some (i : Int)) = xs.take i := by
  unfold cutZ
  rw [HT.sIx_nat, HT.sIx_none, List.drop_zero]
  by_cases h : i ≤ xs.length
  · rw [Nat.min_eq_left h, Nat.sub_zero]
  · rw [Nat.min_eq_right (by omega), Nat.sub_zero, List.take_length, List.take_of_length_le (by omega)]
theorem cut_mid {xs : List α} {i j : Nat} (h : j ≤ xs.length) : cutZ xs (some (i : Int)) (some (j : Int)) = (xs.drop i).take (j - i) := by
  unfold cutZ
  rw [HT.sIx_nat, HT.sIx_nat, Nat.min_eq_left h]
  by_cases h2 : i ≤ xs.length
  · rw [Nat.min_eq_left h2]
  · rw [Nat.min_eq_right (by omega), List.drop_of_length_le (Nat.le_refl _), List.drop_of_length_le (by omega)]; simp
theorem atZ {xs : List α} {i : Nat} (h : i < xs.length) : atI xs (i : Int) = some xs[i] := by
  exact atI_nat (List.getElem?_eq_getElem h)
theorem mdZ {i j : Nat} (h : 0 < j) : binI .Mod (i : Int) (j : Int) = some ((i % j : Nat) : Int) := by
  show (if 0 < (j : Int) then _ else _) = _
  rw [if_pos (by omega)]
  simp
/-! sorting -/
def insW (x : List Int) : List (List Int) → List (List Int)
  | [] => [x]
  | y :: ys => if x < y then x :: y :: ys else y :: insW x ys
def srtS : List (List Int) → List (List Int)
  | [] => []
  | x :: xs => insW x (srtS xs)
theorem insW_perm (x : List Int) : ∀ ys, (insW x ys).Perm (x :: ys)
  | [] => .refl _
  | y :: ys => by
    unfold insW
    split
    · exact .refl _
    · exact ((insW_perm x ys).cons y).trans (List.Perm.swap ..)
theorem srtS_perm : ∀ xs, (srtS xs).Perm xs
  | [] => .refl _
  | x :: xs => (insW_perm x _).trans ((srtS_perm xs).cons x)
theorem insW_srt (x : List Int) : ∀ ys : List (List Int), ys.Pairwise (fun a b => a ≤ b) → (insW x ys).Pairwise (fun a b => a ≤ b)
  | [], _ => by unfold insW; simp
  | y :: ys, h => by
    unfold insW
    rw [List.pairwise_cons] at h
    split
    · rename_i c
      rw [List.pairwise_cons, List.pairwise_cons]
      refine ⟨fun z hz => ?_, h⟩
      have c' : x ≤ y := List.le_of_lt c
      rcases List.mem_cons.mp hz with rfl | hz
      · exact c'
      · exact List.le_trans c' (h.1 z hz)
    · rename_i c
      rw [List.pairwise_cons]
      refine ⟨fun z hz => ?_, insW_srt x ys h.2⟩
      rcases List.mem_cons.mp ((insW_perm x ys).mem_iff.mp hz) with rfl | hz
      · exact List.not_lt.mp c
      · exact h.1 z hz
theorem srtS_srt : ∀ xs, (srtS xs).Pairwise (fun a b => a ≤ b)
  | [] => .nil
  | x :: xs => insW_srt x _ (srtS_srt xs)
theorem srt_eq (xs : List (List Int)) : (xs.mergeSort fun a b => !decide (b < a)) = srtS xs := by
  refine List.Perm.eq_of_pairwise (le := fun a b => a ≤ b) (fun a b _ _ h1 h2 => List.le_antisymm h1 h2) ?_ (srtS_srt xs) ((List.mergeSort_perm ..).trans (srtS_perm xs).symm)
  have := List.pairwise_mergeSort (le := fun (a b : List Int) => !decide (b < a)) (fun a b c h1 h2 => ?_) (fun a b => ?_) xs
  · refine this.imp fun {a b} h => ?_
    exact List.not_lt.mp (by simpa using h)
  · have h1 : ¬ b < a := by simpa using h1
    have h2 : ¬ c < b := by simpa using h2
    have : ¬ c < a := List.not_lt.mpr (List.le_trans (List.not_lt.mp h1) (List.not_lt.mp h2))
    simpa using this
  · by_cases h : b < a
    · have := List.lt_asymm h
      simp [this]
    · simp [h]
def srtWS (xs : List (List Int)) : Option (List (List Int)) := if okW xs = true ∧ xs.length ≤ lim ∧ (xs.all fun x => !x.isEmpty) = true then some (srtS xs) else none
theorem srtW_S {xs : List (List Int)} : srtWZ xs = srtWS xs := by unfold srtWZ srtWS; rw [srt_eq]
/-! most and least -/
theorem foldMax : ∀ (xs : List Int) (x : Int), (∀ y ∈ x :: xs, y ≤ xs.foldl (fun m y => if m < y then y else m) x) ∧ xs.foldl (fun m y => if m < y then y else m) x ∈ x :: xs
  | [], x => by simp
  | y :: xs, x => by
    rw [List.foldl_cons]
    by_cases c : x < y
    · rw [if_pos c]
      obtain ⟨h1, h2⟩ := foldMax xs y
      have a := h1 y (List.mem_cons_self ..)
      constructor
      · intro z hz
        rcases List.mem_cons.mp hz with rfl | hz
        · omega
        · exact h1 z hz
      · exact List.mem_cons_of_mem _ h2
    · rw [if_neg c]
      obtain ⟨h1, h2⟩ := foldMax xs x
      have a := h1 x (List.mem_cons_self ..)
      constructor
      · intro z hz
        rcases List.mem_cons.mp hz with rfl | hz
        · exact a
        · rcases List.mem_cons.mp hz with rfl | hz
          · omega
          · exact h1 z (List.mem_cons_of_mem _ hz)
      · rcases List.mem_cons.mp h2 with e | e
        · rw [e]; simp
        · exact List.mem_cons_of_mem _ (List.mem_cons_of_mem _ e)
theorem foldMin : ∀ (xs : List Int) (x : Int), (∀ y ∈ x :: xs, xs.foldl (fun m y => if y < m then y else m) x ≤ y) ∧ xs.foldl (fun m y => if y < m then y else m) x ∈ x :: xs
  | [], x => by simp
  | y :: xs, x => by
    rw [List.foldl_cons]
    by_cases c : y < x
    · rw [if_pos c]
      obtain ⟨h1, h2⟩ := foldMin xs y
      have a := h1 y (List.mem_cons_self ..)
      constructor
      · intro z hz
        rcases List.mem_cons.mp hz with rfl | hz
        · omega
        · exact h1 z hz
      · exact List.mem_cons_of_mem _ h2
    · rw [if_neg c]
      obtain ⟨h1, h2⟩ := foldMin xs x
      have a := h1 x (List.mem_cons_self ..)
      constructor
      · intro z hz
        rcases List.mem_cons.mp hz with rfl | hz
        · exact a
        · rcases List.mem_cons.mp hz with rfl | hz
          · omega
          · exact h1 z (List.mem_cons_of_mem _ hz)
      · rcases List.mem_cons.mp h2 with e | e
        · rw [e]; simp
        · exact List.mem_cons_of_mem _ (List.mem_cons_of_mem _ e)
theorem maxL_ok {xs : List Int} (h : xs ≠ []) : ∃ m, maxL xs = some m ∧ m ∈ xs ∧ ∀ y ∈ xs, y ≤ m := by
  cases xs with
  | nil => exact absurd rfl h
  | cons x xs => exact ⟨_, rfl, (foldMax xs x).2, (foldMax xs x).1⟩
theorem minL_ok {xs : List Int} (h : xs ≠ []) : ∃ m, minL xs = some m ∧ m ∈ xs ∧ ∀ y ∈ xs, m ≤ y := by
  cases xs with
  | nil => exact absurd rfl h
  | cons x xs => exact ⟨_, rfl, (foldMin xs x).2, (foldMin xs x).1⟩
theorem idxZ_ok {xs : List Int} {i : Int} (h : xs.length < 1000000) (hi : i ∈ xs) : ∃ j, idxZ xs i = some j := by
  unfold idxZ
  rw [if_pos h]
  cases e : xs.findIdx? (· == i) with
  | none =>
    rw [List.findIdx?_eq_none_iff] at e
    simpa using e i hi
  | some j => exact ⟨_, rfl⟩
/-- the same twice -/
theorem same_ok {d : D} (h : plB 9 d = true) : sameZ d d = some true := by
  unfold sameZ
  rw [if_pos ⟨rfl, h⟩]
end
end Tv

set_option Elab.async false
set_option linter.all false
set_option maxRecDepth 100000
set_option maxHeartbeats 2000000
/-! objects; other things that are walked -/
namespace Tv
open PySem L2 Px Py
section
variable {G : Sig} {ρ ρ1 ρ2 ρ3 : PEnv} {α β : Type} {e : α → D} {K : Flw → PEnv → Prop} {ss : List S}
theorem it_revT {xs : List α} : itemsOf ρ .rev [.tup (xs.map e)] = some (xs.reverse.map e) := by
  show some (List.reverse _) = _
  rw [List.map_reverse]
theorem it_revL {xs : List α} : itemsOf ρ .rev [.lst (xs.map e)] = some (xs.reverse.map e) := by
  show some (List.reverse _) = _
  rw [List.map_reverse]
theorem keysI_map {f : β → D} : ∀ {ps : List (Int × β)}, keysI (ps.map (eP eI f)) = some (ps.map Prod.fst)
  | [] => rfl
  | p :: ps => by
    show (keysI (ps.map (eP eI f))).map (p.1 :: ·) = _
    rw [keysI_map]; rfl
theorem it_dk {f : β → D} {ps : List (Int × β)} : itemsOf ρ .dk [.lst (ps.map (eP eI f))] = some ((nubI (ps.map Prod.fst)).map eI) := by
  show (keysI (ps.map (eP eI f))).map _ = _
  rw [keysI_map]; rfl
theorem same_rev : sameB .rev ρ ρ1 = true := rfl
theorem same_dk : sameB .dk ρ ρ1 = true := rfl
/-! objects -/
theorem e_make {c : Str} {es : List E} {ds : List D} {d : D} (h1 : evs G es ρ = .ok (ds, ρ1)) (h2 : makeR G c ds = .ok d) : ev G (.make c es) ρ = .ok (d, ρ1) := by
  unfold ev; rw [h1, Out.bind_okS, h2, Out.bind_okS]
theorem e_meth {o : E} {m : Str} {es : List E} {d : D} {ds : List D} {s : Px.Slot} (h1 : ev G o ρ = .ok (d, ρ1)) (h2 : evs G es ρ1 = .ok (ds, ρ2)) (h3 : methR G d m ds = .ok s) : ev G (.meth o m es) ρ = .ok (s.frz, ρ2) := by
  unfold ev; rw [h1, Out.bind_okS, h2, Out.bind_okS, h3, Out.bind_okS]
theorem eo_meth {o : E} {m : Str} {es : List E} {d : D} {ds : List D} {s : Px.Slot} (h1 : ev G o ρ = .ok (d, ρ1)) (h2 : evs G es ρ1 = .ok (ds, ρ2)) (h3 : methR G d m ds = .ok s) : evo G (.meth o m es) ρ = .ok (s, ρ2) := by
  show (ev G o ρ).bind _ = _
  rw [h1, Out.bind_okS, h2, Out.bind_okS, h3, Out.bind_okS]
theorem v_make {c : Str} {es : List E} {d : D} (h : ev G (.make c es) ρ = .ok (d, ρ1)) : evo G (.make c es) ρ = .ok (.dat d, ρ1) := by
  show (ev G (.make c es) ρ).bind _ = _
  rw [h]; rfl
theorem v_comp2 {vs : List Nat} {tg : Bool × List Nat} {ik : IK} {ies : List E} {conds : List Px.T} {vs1 : List Nat} {tg1 : Bool × List Nat} {ik1 : IK} {ies1 : List E} {conds1 : List Px.T} {elt : E} {xs : List D} (h : ev G (.comp2 vs tg ik ies conds vs1 tg1 ik1 ies1 conds1 elt) ρ = .ok (.lst xs, ρ1)) : evo G (.comp2 vs tg ik ies conds vs1 tg1 ik1 ies1 conds1 elt) ρ = .ok (.own xs, ρ1) := by
  show (ev G (.comp2 vs tg ik ies conds vs1 tg1 ik1 ies1 conds1 elt) ρ).bind _ = _
  rw [h]; rfl
theorem x_setf {i : Nat} {f c : Str} {e : E} {d : D} {ns : List Str} {xs : List D} (h : ev G e ρ = .ok (d, ρ1)) (h0 : getS ρ1 i = some (.mo (.ins c ns xs))) (h1 : G.fld c f = true) (h2 : ns.contains f = false) (h3 : ns.length < 900) (q : X G ss (ρ1.set i (some (.mo (.ins c (ns ++ [f]) (xs ++ [d]))))) K) : X G (.setf i f e :: ss) ρ K :=
  wc ⟨.nx, _, by unfold ex; rw [h, Out.bind_okS]; simp only []; rw [h0]; simp only []; rw [if_pos ⟨h1, h2, h3⟩], q⟩
end
theorem run_D {G : Sig} {d : Def} {as : List D} {r : Px.Slot} (hl : as.length = d.np ∧ d.np ≤ d.N.length)
    (h : WSs G d.body ((as.map fun a => some (.dat a)) ++ List.replicate (d.N.length - as.length) none) fun fl _ => match fl with | .nx => r = .dat .non | .ret s => r = s | _ => False) : ∃ outs, runDef G d (as.map .dat) = .ok (r, outs) := by
  obtain ⟨fl, ρ', h1, h2⟩ := h
  refine ⟨ρ', ?_⟩
  unfold runDef
  rw [if_pos (by simpa using hl)]
  simp only [List.map_map, List.length_map]
  show Out.bind (exs G d.body ((as.map fun a => some (Px.Slot.dat a)) ++ List.replicate (d.N.length - as.length) none)) _ = _
  rw [h1, Out.bind_okS]
  have ho : ownArgs (as.map Px.Slot.dat) (wrs d.body) ρ' = true := by
    unfold ownArgs
    rw [List.all_eq_true]
    intro j hj
    rw [List.getElem?_map]
    cases as[j]? <;> rfl
  rw [if_pos ho]
  cases fl with
  | nx => subst h2; rfl
  | ret s => subst h2; rfl
  | brk => cases h2
  | cnt => cases h2
theorem methR_run {ds : List Def} {k : Nat} {c m : Str} {d : Def} {ns : List Str} {xs as : List D} {r : Px.Slot} (hf : fndD ds c m = some d) (hc : c ≠ "" ∧ m ≠ "__init__") (hn : ns.contains m = false) (hl : as.length + 1 = d.np ∧ d.np ≤ d.N.length)
    (h : WSs (sigOf ds k) d.body (some (.dat (.obj c ns xs)) :: (as.map fun a => some (.dat a)) ++ List.replicate (d.N.length - (as.length + 1)) none) fun fl _ => match fl with | .nx => r = .dat .non | .ret s => r = s | _ => False) : methR (sigOf ds (k + 1)) (.obj c ns xs) m as = .ok r := by
  obtain ⟨outs, h1⟩ := run_D (as := .obj c ns xs :: as) (d := d) hl h
  unfold methR
  simp only [hn, Bool.false_eq_true, if_false]
  have e : (sigOf ds (k + 1)).mth c m = some (runDef (sigOf ds k) d) := by
    show (if c = "" ∨ m = "__init__" then none else (fndD ds c m).map (runDef (sigOf ds k))) = _
    rw [if_neg (fun h => h.elim hc.1 hc.2), hf]; rfl
  rw [e]
  show (runDef (sigOf ds k) d ((.obj c ns xs :: as).map .dat)).bind _ = _
  rw [h1]; rfl
theorem makeR_run {ds : List Def} {k : Nat} {c : Str} {d : Def} {ns : List Str} {xs as : List D} (hf : fndD ds c "__init__" = some d) (hc : c ≠ "") (hl : as.length + 1 = d.np ∧ d.np ≤ d.N.length) (hw : (wrs d.body).contains 0 = false)
    (h : WSs (sigOf ds k) d.body (some (.mo (.ins c [] [])) :: (as.map fun a => some (.dat a)) ++ List.replicate (d.N.length - (as.length + 1)) none) fun fl ρ' => (fl = .nx ∨ fl = .ret (.dat .non)) ∧ getS ρ' 0 = some (.mo (.ins c ns xs))) : makeR (sigOf ds (k + 2)) c as = .ok (.obj c ns xs) := by
  obtain ⟨fl, ρ', h1, h2, h3⟩ := h
  unfold makeR
  have e : (sigOf ds (k + 2)).ini c = some (runDef (sigOf ds k) d) := by
    show (if k + 1 = 0 ∨ c = "" then none else (fndD ds c "__init__").map (runDef (sigOf ds k))) = _
    rw [if_neg (fun h => h.elim (fun h => Nat.succ_ne_zero _ h) hc), hf]; rfl
  rw [e]
  simp only []
  have r : runDef (sigOf ds k) d (.mo (.ins c [] []) :: as.map .dat) = .ok (.dat .non, ρ') := by
    unfold runDef
    rw [if_pos (by simpa using hl)]
    simp only [List.map_cons, List.map_map, List.length_map, List.length_cons]
    show Out.bind (exs (sigOf ds k) d.body (some (.mo (.ins c [] [])) :: (as.map fun a => some (Px.Slot.dat a)) ++ List.replicate (d.N.length - (as.length + 1)) none)) _ = _
    rw [h1, Out.bind_okS]
    have ho : ownArgs (.mo (.ins c [] []) :: as.map Px.Slot.dat) (wrs d.body) ρ' = true := by
      unfold ownArgs
      rw [List.all_eq_true]
      intro j hj
      cases j with
      | zero =>
        rw [hw, h3]; rfl
      | succ j =>
        rw [List.getElem?_cons_succ, List.getElem?_map]
        cases as[j]? <;> rfl
    rw [if_pos ho]
    rcases h2 with rfl | rfl <;> rfl
  rw [r, Out.bind_okS]
  simp only []
  rw [h3]
  show (if c = c then Out.ok (D.obj c ns xs) else Out.bad) = _
  rw [if_pos rfl]
end Tv

set_option linter.all false
set_option maxRecDepth 100000
namespace LW
open PySem Px
def d_is_number : Def := { nm := "is_number", N := ["value"], np := 1, body := [
    .ret (.bop true [.isi (.slot 0) .int, .not (.isi (.slot 0) .bool), .prim (.cmp .GtE) [.slot 0, .ex (.con (.int 0))]])] }
def d_is_word : Def := { nm := "is_word", N := ["value", "signs", "one"], np := 2, body := [
    .ret (.bop true [.isi (.slot 0) .tuple, .prim (.bi .all) [.ex (.comp [2] (false, [2]) .seq [.var 0] [] (.bop true [.call "is_number" [.ex (.var 2)], .prim (.cmp .Lt) [.slot 2, .slot 1]]))]])] }
def d_turned : Def := { nm := "turned", N := ["word", "many", "at"], np := 2, body := [
    .ite (.val (.ex (.prim (.cmp .Eq) [.ex (.prim (.bi .len) [.slot 0]), .ex (.con (.int 0))]))) [
    .ret (.dsp true [])] [],
    .set false 2 (.prim (.bin .Mod) [.ex (.prim (.bi .int) [.slot 1]), .ex (.prim (.bi .len) [.slot 0])]),
    .ret (.prim (.bin .Add) [.ex (.prim (.sl true false) [.slot 0, .ex (.var 2)]), .ex (.prim (.sl false true) [.slot 0, .ex (.var 2)])])] }
def d_least_turn : Def := { nm := "least_turn", N := ["word", "k"], np := 1, body := [
    .ret (.prim (.bid .min) [.ex (.comp [1] (false, [1]) .rng [.prim (.bi .len) [.slot 0]] [] (.call "turned" [.ex (.var 0), .ex (.var 1)])), .ex (.dsp true [])])] }
def d_least_period : Def := { nm := "least_period", N := ["word", "many"], np := 1, body := [
    .loop (false, [1]) .rng [.con (.int 1), .prim (.bin .Add) [.ex (.prim (.bi .len) [.slot 0]), .ex (.con (.int 1))]] [
    .ite (.bop true [.val (.ex (.prim (.cmp .Eq) [.ex (.prim (.bin .Mod) [.ex (.prim (.bi .int) [.ex (.prim (.bi .len) [.slot 0])]), .slot 1]), .ex (.con (.int 0))])), .val (.ex (.prim (.cmp .Eq) [.ex (.call "turned" [.ex (.var 0), .ex (.var 1)]), .slot 0]))]) [
    .ret (.var 1)] []],
    .ret (.con (.int 0))] }
def d_root_of : Def := { nm := "root_of", N := ["word"], np := 1, body := [
    .ret (.prim (.sl false true) [.slot 0, .ex (.call "least_period" [.ex (.var 0)])])] }
def d_common_divisor : Def := { nm := "common_divisor", N := ["first", "second"], np := 2, body := [
    .par false 0 false 1 (.prim (.bi .abs) [.slot 0]) (.prim (.bi .abs) [.slot 1]),
    .whil (.val (.ex (.prim (.cmp .Gt) [.slot 1, .ex (.con (.int 0))]))) [
    .par false 0 false 1 (.var 1) (.prim (.bin .Mod) [.ex (.prim (.bi .int) [.slot 0]), .slot 1])],
    .ret (.var 0)] }
def d_check_steps : Def := { nm := "check_steps", N := ["zeros", "ones"], np := 2, body := [
    .ite (.bop false [.val (.ex (.prim (.cmp .Lt) [.slot 0, .ex (.con (.int 0))])), .val (.ex (.prim (.cmp .Lt) [.slot 1, .ex (.con (.int 0))])), .val (.ex (.prim (.cmp .NotEq) [.ex (.call "common_divisor" [.ex (.var 0), .ex (.var 1)]), .ex (.con (.int 1))]))]) [
    .never] []] }
def d_lower_word : Def := { nm := "lower_word", N := ["zeros", "ones", "found", "x", "y"], np := 2, body := [
    .drop (.call "check_steps" [.ex (.var 0), .ex (.var 1)]),
    .set false 2 (.dsp true []),
    .upk [3, 4] (.dsp true [.con (.int 0), .con (.int 0)]),
    .whil (.val (.ex (.prim (.cmp .NotEq) [.ex (.dsp true [.var 3, .var 4]), .ex (.dsp true [.var 0, .var 1])]))) [
    .ite (.bop true [.val (.ex (.prim (.cmp .Lt) [.slot 3, .slot 0])), .val (.ex (.prim (.cmp .Gt) [.ex (.prim (.bin .Mult) [.ex (.prim (.bin .Add) [.slot 4, .ex (.con (.int 1))]), .slot 0]), .ex (.prim (.bin .Mult) [.slot 1, .slot 3])]))]) [
    .aug 3 .Add (.con (.int 1)),
    .aug 2 .Add (.dsp true [.con (.int 0)])] [
    .aug 4 .Add (.con (.int 1)),
    .aug 2 .Add (.dsp true [.con (.int 1)])]],
    .ret (.var 2)] }
def d_middle_word : Def := { nm := "middle_word", N := ["zeros", "ones"], np := 2, body := [
    .ite (.bop false [.val (.ex (.prim (.cmp .Lt) [.slot 0, .ex (.con (.int 1))])), .val (.ex (.prim (.cmp .Lt) [.slot 1, .ex (.con (.int 1))]))]) [
    .never] [],
    .ret (.prim (.sl true true) [.ex (.call "lower_word" [.ex (.var 0), .ex (.var 1)]), .ex (.con (.int 1)), .ex (.prim .neg [.ex (.con (.int 1))])])] }
def d_is_even_ring : Def := { nm := "is_even_ring", N := ["word", "longer", "size", "counts", "k"], np := 1, body := [
    .set false 1 (.prim (.bin .Add) [.slot 0, .slot 0]),
    .loop (false, [2]) .rng [.con (.int 1), .prim (.bi .len) [.slot 0]] [
    .set false 3 (.comp [4] (false, [4]) .rng [.prim (.bi .len) [.slot 0]] [] (.prim (.bi .sum) [.ex (.prim (.sl true true) [.slot 1, .ex (.var 4), .ex (.prim (.bin .Add) [.slot 4, .slot 2])])])),
    .ite (.val (.ex (.prim (.cmp .Gt) [.ex (.prim (.bin .Sub) [.ex (.prim (.bi .max) [.slot 3]), .ex (.prim (.bi .min) [.slot 3])]), .ex (.con (.int 1))]))) [
    .ret (.con (.bl false))] []],
    .ret (.con (.bl true))] }
def d_told_slope : Def := { nm := "told_slope", N := ["word", "root"], np := 1, body := [
    .ite (.bop false [.val (.ex (.prim (.cmp .Eq) [.slot 0, .ex (.dsp true [])])), .not (.val (.ex (.call "is_word" [.ex (.var 0), .ex (.con (.int 2))]))), .not (.val (.ex (.call "is_even_ring" [.ex (.var 0)])))]) [
    .ret (.con .non)] [],
    .set false 1 (.call "root_of" [.ex (.var 0)]),
    .ret (.dsp true [.prim (.mth .count) [.ex (.var 1), .ex (.con (.int 0))], .prim (.mth .count) [.ex (.var 1), .ex (.con (.int 1))]])] }
def d_is_lower : Def := { nm := "is_lower", N := ["word", "zeros", "ones"], np := 1, body := [
    .par false 1 false 2 (.prim (.mth .count) [.ex (.var 0), .ex (.con (.int 0))]) (.prim (.mth .count) [.ex (.var 0), .ex (.con (.int 1))]),
    .ret (.bop true [.prim (.cmp .Eq) [.ex (.call "common_divisor" [.ex (.var 1), .ex (.var 2)]), .ex (.con (.int 1))], .prim (.cmp .Eq) [.ex (.call "lower_word" [.ex (.var 1), .ex (.var 2)]), .slot 0]])] }
def d_tree_way : Def := { nm := "tree_way", N := ["zeros", "ones", "found", "low", "high", "middle"], np := 2, body := [
    .drop (.call "check_steps" [.ex (.var 0), .ex (.var 1)]),
    .ite (.bop false [.val (.ex (.prim (.cmp .Lt) [.slot 0, .ex (.con (.int 1))])), .val (.ex (.prim (.cmp .Lt) [.slot 1, .ex (.con (.int 1))]))]) [
    .never] [],
    .set false 2 (.dsp true []),
    .upk [3, 4] (.dsp true [.dsp true [.con (.int 1), .con (.int 0)], .dsp true [.con (.int 0), .con (.int 1)]]),
    .whil (.val (.ex (.prim (.cmp .NotEq) [.ex (.dsp true [.prim (.bin .Add) [.ex (.prim .ix [.slot 3, .ex (.con (.int 0))]), .ex (.prim .ix [.slot 4, .ex (.con (.int 0))])], .prim (.bin .Add) [.ex (.prim .ix [.slot 3, .ex (.con (.int 1))]), .ex (.prim .ix [.slot 4, .ex (.con (.int 1))])]]), .ex (.dsp true [.var 0, .var 1])]))) [
    .set false 5 (.dsp true [.prim (.bin .Add) [.ex (.prim .ix [.slot 3, .ex (.con (.int 0))]), .ex (.prim .ix [.slot 4, .ex (.con (.int 0))])], .prim (.bin .Add) [.ex (.prim .ix [.slot 3, .ex (.con (.int 1))]), .ex (.prim .ix [.slot 4, .ex (.con (.int 1))])]]),
    .ite (.val (.ex (.prim (.cmp .Lt) [.ex (.prim (.bin .Mult) [.slot 1, .ex (.prim .ix [.slot 5, .ex (.con (.int 0))])]), .ex (.prim (.bin .Mult) [.ex (.prim .ix [.slot 5, .ex (.con (.int 1))]), .slot 0])]))) [
    .aug 2 .Add (.dsp true [.con (.int 0)]),
    .set false 4 (.var 5)] [
    .aug 2 .Add (.dsp true [.con (.int 1)]),
    .set false 3 (.var 5)]],
    .ret (.var 2)] }
def d_pair_of_way : Def := { nm := "pair_of_way", N := ["way", "sign", "low", "high", "middle"], np := 1, body := [
    .upk [2, 3] (.dsp true [.dsp true [.con (.int 1), .con (.int 0)], .dsp true [.con (.int 0), .con (.int 1)]]),
    .loop (false, [1]) .seq [.var 0] [
    .set false 4 (.dsp true [.prim (.bin .Add) [.ex (.prim .ix [.slot 2, .ex (.con (.int 0))]), .ex (.prim .ix [.slot 3, .ex (.con (.int 0))])], .prim (.bin .Add) [.ex (.prim .ix [.slot 2, .ex (.con (.int 1))]), .ex (.prim .ix [.slot 3, .ex (.con (.int 1))])]]),
    .upk [2, 3] (.ite (.val (.ex (.prim (.cmp .Eq) [.slot 1, .ex (.con (.int 0))]))) (.dsp true [.var 2, .var 4]) (.dsp true [.var 4, .var 3]))],
    .ret (.dsp true [.prim (.bin .Add) [.ex (.prim .ix [.slot 2, .ex (.con (.int 0))]), .ex (.prim .ix [.slot 3, .ex (.con (.int 0))])], .prim (.bin .Add) [.ex (.prim .ix [.slot 2, .ex (.con (.int 1))]), .ex (.prim .ix [.slot 3, .ex (.con (.int 1))])]])] }
def d_put_words : Def := { nm := "put_words", N := ["way", "word", "sign", "rows", "found", "one"], np := 1, body := [
    .set false 1 (.dsp true [.con (.int 0), .con (.int 1)]),
    .loop (false, [2]) .rev [.var 0] [
    .set false 3 (.ite (.val (.ex (.prim (.cmp .Eq) [.slot 2, .ex (.con (.int 0))]))) (.dsp true [.dsp true [.con (.int 0)], .dsp true [.con (.int 0), .con (.int 1)]]) (.dsp true [.dsp true [.con (.int 0), .con (.int 1)], .dsp true [.con (.int 1)]])),
    .set false 4 (.dsp true []),
    .loop (false, [5]) .seq [.var 1] [
    .aug 4 .Add (.prim .ix [.slot 3, .slot 5])],
    .set false 1 (.var 4)],
    .ret (.var 1)] }
def d_times_table : Def := { nm := "times_table", N := ["first", "second", "wide", "found", "row", "j", "k"], np := 2, body := [
    .set false 2 (.ite (.val (.ex (.prim (.cmp .Gt) [.ex (.prim (.bi .len) [.slot 1]), .ex (.con (.int 0))]))) (.prim (.bi .len) [.ex (.prim .ix [.slot 1, .ex (.con (.int 0))])]) (.con (.int 0))),
    .set true 3 (.dsp false []),
    .loop (false, [4]) .seq [.var 0] [
    .app 3 (.prim (.bi .tuple) [.ex (.comp [5] (false, [5]) .rng [.var 2] [] (.prim (.bi .sum) [.ex (.comp [6] (false, [6]) .rng [.prim (.bi .len) [.slot 4]] [] (.prim (.bin .Mult) [.ex (.prim .ix [.slot 4, .slot 6]), .ex (.prim .ix [.ex (.prim .ix [.slot 1, .slot 6]), .slot 5])]))]))])],
    .ret (.prim (.bi .tuple) [.slot 3])] }
def d_sign_table : Def := { nm := "sign_table", N := ["sub", "many", "i", "j"], np := 1, body := [
    .set false 1 (.prim (.bi .len) [.ex (.prim (.fld "words") [.slot 0])]),
    .ret (.prim (.bi .tuple) [.ex (.comp [2] (false, [2]) .rng [.var 1] [] (.prim (.bi .tuple) [.ex (.comp [3] (false, [3]) .rng [.var 1] [] (.prim (.mth .count) [.ex (.prim .ix [.ex (.prim (.fld "words") [.slot 0]), .slot 3]), .slot 2]))]))])] }
def d_sign_counts : Def := { nm := "sign_counts", N := ["word", "signs", "sign"], np := 2, body := [
    .ret (.prim (.bi .tuple) [.ex (.comp [2] (false, [2]) .rng [.var 1] [] (.prim (.mth .count) [.ex (.var 0), .slot 2]))])] }
def d_is_primitive : Def := { nm := "is_primitive", N := ["sub", "now", "here", "_", "row", "one"], np := 1, body := [
    .set false 1 (.prim (.bi .tuple) [.ex (.comp [4] (false, [4]) .seq [.call "sign_table" [.ex (.var 0)]] [] (.prim (.bi .tuple) [.ex (.comp [5] (false, [5]) .seq [.var 4] [] (.prim (.bi .int) [.ex (.prim (.cmp .Gt) [.slot 5, .ex (.con (.int 0))])]))]))]),
    .set false 2 (.var 1),
    .loop (false, [3]) .rng [.prim (.bin .Mult) [.ex (.prim (.bi .len) [.slot 1]), .ex (.prim (.bi .len) [.slot 1])]] [
    .ite (.val (.ex (.prim (.bi .all) [.ex (.comp2 [4, 5] (false, [4]) .seq [.var 2] [] [5] (false, [5]) .seq [.var 4] [] (.prim (.cmp .Gt) [.slot 5, .ex (.con (.int 0))]))]))) [
    .ret (.con (.bl true))] [],
    .set false 2 (.prim (.bi .tuple) [.ex (.comp [4] (false, [4]) .seq [.call "times_table" [.ex (.var 2), .ex (.var 1)]] [] (.prim (.bi .tuple) [.ex (.comp [5] (false, [5]) .seq [.var 4] [] (.prim (.bi .int) [.ex (.prim (.cmp .Gt) [.slot 5, .ex (.con (.int 0))])]))]))])],
    .ret (.con (.bl false))] }
def d_composed_substitution : Def := { nm := "composed_substitution", N := ["first", "second", "word"], np := 2, body := [
    .ret (.make "Substitution" [.comp [2] (false, [2]) .seq [.prim (.fld "words") [.slot 1]] [] (.meth (.var 0) "put" [.var 2])])] }
def d_fixed_beginning : Def := { nm := "fixed_beginning", N := ["sub", "sign", "many", "length", "word"], np := 4, body := [
    .set false 4 (.dsp true [.var 1]),
    .whil (.val (.ex (.prim (.cmp .Lt) [.ex (.prim (.bi .len) [.slot 4]), .slot 3]))) [
    .set false 4 (.meth (.var 0) "put_often" [.var 4, .var 2])],
    .ret (.prim (.sl false true) [.slot 4, .ex (.var 3)])] }
def d_is_balanced_word : Def := { nm := "is_balanced_word", N := ["word", "size", "sign", "counts", "one", "k"], np := 1, body := [
    .loop (false, [1]) .rng [.con (.int 1), .prim (.bi .len) [.slot 0]] [
    .loop (false, [2]) .dk [.comp [4] (false, [4]) .seq [.var 0] [] (.dsp true [.var 4, .con (.bl true)])] [
    .set false 3 (.comp [5] (false, [5]) .rng [.prim (.bin .Add) [.ex (.prim (.bin .Sub) [.ex (.prim (.bi .len) [.slot 0]), .slot 1]), .ex (.con (.int 1))]] [] (.prim (.mth .count) [.ex (.prim (.sl true true) [.slot 0, .ex (.var 5), .ex (.prim (.bin .Add) [.slot 5, .slot 1])]), .slot 2])),
    .ite (.val (.ex (.prim (.cmp .Gt) [.ex (.prim (.bin .Sub) [.ex (.prim (.bi .max) [.slot 3]), .ex (.prim (.bi .min) [.slot 3])]), .ex (.con (.int 1))]))) [
    .ret (.con (.bl false))] []]],
    .ret (.con (.bl true))] }
def d_law_next : Def := { nm := "_law_next", N := ["tape", "many", "rest", "cell"], np := 2, body := [
    .set false 2 (.prim .ix [.slot 0, .ex (.con (.int 2))]),
    .ite (.val (.ex (.prim (.cmp .Eq) [.slot 2, .ex (.con (.int 0))]))) [
    .set false 3 (.con (.int 0)),
    .ite (.val (.ex (.prim (.cmp .Lt) [.ex (.prim .ix [.slot 0, .ex (.con (.int 1))]), .ex (.prim (.bi .len) [.ex (.prim .ix [.slot 0, .ex (.con (.int 0))])])]))) [
    .set false 3 (.prim (.bi .abs) [.ex (.prim (.bi .int) [.ex (.prim .ix [.ex (.prim .ix [.slot 0, .ex (.con (.int 0))]), .ex (.prim .ix [.slot 0, .ex (.con (.int 1))])])])]),
    .seti 0 (.con (.int 1)) (.prim (.bin .Add) [.ex (.prim .ix [.slot 0, .ex (.con (.int 1))]), .ex (.con (.int 1))])] [],
    .set false 2 (.var 3),
    .ite (.val (.ex (.prim (.cmp .Lt) [.slot 3, .ex (.prim (.bin .Pow) [.ex (.con (.int 10)), .ex (.con (.int 18))])]))) [
    .seti 0 (.con (.int 3)) (.prim (.bin .Mod) [.ex (.prim (.bi .int) [.ex (.prim (.bin .Add) [.ex (.prim (.bin .Add) [.ex (.prim (.bin .Mult) [.ex (.prim .ix [.slot 0, .ex (.con (.int 3))]), .ex (.con (.int 69621))]), .ex (.prim (.bin .Mult) [.slot 3, .ex (.con (.int 40692))])]), .ex (.con (.int 17))])]), .ex (.con (.int 2147483647))]),
    .ret (.prim (.bin .Mod) [.ex (.prim (.bin .Mod) [.ex (.prim (.bi .int) [.ex (.prim (.bin .Mult) [.ex (.prim (.bi .int) [.ex (.prim (.bin .FloorDiv) [.ex (.prim .ix [.slot 0, .ex (.con (.int 3))]), .ex (.con (.int 5))])]), .ex (.con (.int 48271))])]), .ex (.con (.int 2147483647))]), .slot 1])] []] [],
    .seti 0 (.con (.int 2)) (.prim (.bin .FloorDiv) [.slot 2, .slot 1]),
    .ret (.prim (.bin .Mod) [.ex (.prim (.bi .int) [.slot 2]), .slot 1])] }
def d_law : Def := { nm := "law", N := ["script", "tape", "way", "whole", "sign", "word", "pair", "table", "ring", "golden", "turn", "middle", "at", "left", "right", "zeros", "ones", "counts", "size", "a", "b", "slope", "other", "k"], np := 1, body := [
    .set true 1 (.dsp false [.prim (.bi .list) [.slot 0], .con (.int 0), .con (.int 0), .con (.int 86)]),
    .par false 13 false 14 (.make "Substitution" [.dsp false [.dsp true [.con (.int 0)], .dsp true [.con (.int 0), .con (.int 1)]]]) (.make "Substitution" [.dsp false [.dsp true [.con (.int 0), .con (.int 1)], .dsp true [.con (.int 1)]]]),
    .set false 2 (.prim (.bi .tuple) [.ex (.comp [23] (false, [23]) .rng [.call "_law_next" [.slot 1, .ex (.con (.int 7))]] [] (.call "_law_next" [.slot 1, .ex (.con (.int 2))]))]),
    .set false 3 (.make "Substitution" [.dsp false [.dsp true [.con (.int 0)], .dsp true [.con (.int 1)]]]),
    .loop (false, [4]) .seq [.var 2] [
    .set false 3 (.call "composed_substitution" [.ex (.var 3), .ex (.ite (.val (.slot 4)) (.var 14) (.var 13))])],
    .set false 5 (.meth (.var 3) "put" [.dsp true [.con (.int 0), .con (.int 1)]]),
    .set false 6 (.call "pair_of_way" [.ex (.var 2)]),
    .ite (.bop false [.val (.ex (.prim (.cmp .NotEq) [.slot 5, .ex (.call "put_words" [.ex (.var 2)])])), .val (.ex (.prim (.cmp .NotEq) [.slot 5, .ex (.call "lower_word" [.ex (.prim .ix [.slot 6, .ex (.con (.int 0))]), .ex (.prim .ix [.slot 6, .ex (.con (.int 1))])])])), .val (.ex (.prim (.cmp .NotEq) [.ex (.call "tree_way" [.ex (.prim .ix [.slot 6, .ex (.con (.int 0))]), .ex (.prim .ix [.slot 6, .ex (.con (.int 1))])]), .slot 2])), .val (.ex (.prim (.cmp .NotEq) [.ex (.call "sign_counts" [.ex (.var 5), .ex (.con (.int 2))]), .slot 6]))]) [
    .ret (.con (.bl false))] [],
    .ite (.bop false [.val (.ex (.prim (.cmp .IsNot) [.ex (.call "is_lower" [.ex (.prim .ix [.ex (.prim (.fld "words") [.slot 3]), .ex (.con (.int 0))])]), .ex (.con (.bl true))])), .val (.ex (.prim (.cmp .IsNot) [.ex (.call "is_lower" [.ex (.prim .ix [.ex (.prim (.fld "words") [.slot 3]), .ex (.con (.int 1))])]), .ex (.con (.bl true))])), .val (.ex (.prim (.cmp .NotEq) [.ex (.prim (.bin .Add) [.ex (.prim .ix [.ex (.prim (.fld "words") [.slot 3]), .ex (.con (.int 0))]), .ex (.prim .ix [.ex (.prim (.fld "words") [.slot 3]), .ex (.con (.int 1))])]), .slot 5]))]) [
    .ret (.con (.bl false))] [],
    .set false 7 (.call "sign_table" [.ex (.var 3)]),
    .ite (.val (.ex (.prim (.cmp .NotEq) [.ex (.prim (.bin .Sub) [.ex (.prim (.bin .Mult) [.ex (.prim .ix [.ex (.prim .ix [.slot 7, .ex (.con (.int 0))]), .ex (.con (.int 0))]), .ex (.prim .ix [.ex (.prim .ix [.slot 7, .ex (.con (.int 1))]), .ex (.con (.int 1))])]), .ex (.prim (.bin .Mult) [.ex (.prim .ix [.ex (.prim .ix [.slot 7, .ex (.con (.int 0))]), .ex (.con (.int 1))]), .ex (.prim .ix [.ex (.prim .ix [.slot 7, .ex (.con (.int 1))]), .ex (.con (.int 0))])])]), .ex (.con (.int 1))]))) [
    .ret (.con (.bl false))] [],
    .par false 15 false 16 (.prim (.bin .Add) [.ex (.con (.int 1)), .ex (.call "_law_next" [.slot 1, .ex (.con (.int 5))])]) (.prim (.bin .Add) [.ex (.con (.int 1)), .ex (.call "_law_next" [.slot 1, .ex (.con (.int 5))])]),
    .set false 8 (.prim (.bi .tuple) [.ex (.comp [23] (false, [23]) .rng [.prim (.bin .Add) [.slot 15, .slot 16]] [] (.call "_law_next" [.slot 1, .ex (.con (.int 2))]))]),
    .ite (.val (.ex (.prim (.cmp .NotEq) [.ex (.call "is_even_ring" [.ex (.meth (.var 3) "put" [.var 8])]), .ex (.call "is_even_ring" [.ex (.var 8)])]))) [
    .ret (.con (.bl false))] [],
    .ite (.val (.ex (.call "is_even_ring" [.ex (.var 8)]))) [
    .par false 21 false 22 (.call "told_slope" [.ex (.var 8)]) (.meth (.var 3) "put" [.var 8]),
    .set false 17 (.call "sign_counts" [.ex (.var 22), .ex (.con (.int 2))]),
    .set false 18 (.ite (.val (.ex (.prim (.cmp .Gt) [.ex (.prim .ix [.slot 21, .ex (.con (.int 1))]), .ex (.con (.int 0))]))) (.prim (.bin .FloorDiv) [.ex (.prim (.bi .sum) [.slot 8]), .ex (.prim .ix [.slot 21, .ex (.con (.int 1))])]) (.prim (.bi .len) [.slot 8])),
    .ite (.val (.ex (.prim (.cmp .NotEq) [.ex (.call "told_slope" [.ex (.var 22)]), .ex (.dsp true [.prim (.bin .FloorDiv) [.ex (.prim .ix [.slot 17, .ex (.con (.int 0))]), .slot 18], .prim (.bin .FloorDiv) [.ex (.prim .ix [.slot 17, .ex (.con (.int 1))]), .slot 18]])]))) [
    .ret (.con (.bl false))] []] [],
    .set false 9 (.make "Substitution" [.dsp false [.dsp true [.con (.int 0), .con (.int 1)], .dsp true [.con (.int 0)]]]),
    .upk [19, 20] (.dsp true [.dsp true [.con (.int 1), .con (.int 1)], .dsp true [.con (.int 2), .con (.int 1)]]),
    .loop (false, [10]) .rng [.call "_law_next" [.slot 1, .ex (.con (.int 5))]] [
    .par false 19 false 20 (.var 20) (.dsp true [.prim (.bin .Add) [.ex (.prim .ix [.slot 19, .ex (.con (.int 0))]), .ex (.prim .ix [.slot 20, .ex (.con (.int 0))])], .prim (.bin .Add) [.ex (.prim .ix [.slot 19, .ex (.con (.int 1))]), .ex (.prim .ix [.slot 20, .ex (.con (.int 1))])]])],
    .set false 11 (.call "middle_word" [.ex (.prim .ix [.slot 20, .ex (.con (.int 0))]), .ex (.prim .ix [.slot 20, .ex (.con (.int 1))])]),
    .ite (.bop false [.val (.ex (.prim (.cmp .NotEq) [.ex (.call "fixed_beginning" [.ex (.var 9), .ex (.con (.int 0)), .ex (.con (.int 1)), .ex (.prim (.bi .len) [.slot 11])]), .slot 11])), .not (.val (.ex (.call "is_primitive" [.ex (.var 9)]))), .val (.ex (.prim (.cmp .IsNot) [.ex (.call "is_balanced_word" [.ex (.call "fixed_beginning" [.ex (.var 9), .ex (.con (.int 0)), .ex (.con (.int 1)), .ex (.con (.int 30))])]), .ex (.con (.bl true))]))]) [
    .ret (.con (.bl false))] [],
    .set false 12 (.call "_law_next" [.slot 1, .ex (.prim (.bi .len) [.slot 5])]),
    .ret (.prim (.cmp .Eq) [.ex (.call "least_turn" [.ex (.call "turned" [.ex (.var 5), .ex (.var 12)])]), .slot 5])] }
def d_Substitution_init : Def := { nm := "__init__", N := ["self", "words", "word"], np := 2, cl := "Substitution", fs := ["words"], body := [
    .set false 1 (.prim (.bi .tuple) [.ex (.comp [2] (false, [2]) .seq [.var 1] [] (.prim (.bi .tuple) [.slot 2]))]),
    .ite (.bop false [.val (.ex (.prim (.cmp .Eq) [.slot 1, .ex (.dsp true [])])), .not (.val (.ex (.prim (.bi .all) [.ex (.comp [2] (false, [2]) .seq [.var 1] [] (.bop true [.call "is_word" [.ex (.var 2), .ex (.prim (.bi .len) [.slot 1])], .prim (.cmp .NotEq) [.slot 2, .ex (.dsp true [])]]))])))]) [
    .never] [],
    .setf 0 "words" (.var 1)] }
def d_Substitution_put : Def := { nm := "put", N := ["self", "word", "found", "sign"], np := 2, cl := "Substitution", fs := ["words"], body := [
    .set false 2 (.dsp true []),
    .loop (false, [3]) .seq [.var 1] [
    .aug 2 .Add (.prim .ix [.ex (.prim (.fld "words") [.slot 0]), .slot 3])],
    .ret (.var 2)] }
def d_Substitution_put_often : Def := { nm := "put_often", N := ["self", "word", "many", "_"], np := 3, cl := "Substitution", fs := ["words"], body := [
    .loop (false, [3]) .rng [.var 2] [
    .set false 1 (.meth (.var 0) "put" [.var 1])],
    .ret (.var 1)] }
def defs : List Def := [d_is_number, d_is_word, d_turned, d_least_turn, d_least_period, d_root_of, d_common_divisor, d_check_steps, d_lower_word, d_middle_word, d_is_even_ring, d_told_slope, d_is_lower, d_tree_way, d_pair_of_way, d_put_words, d_times_table, d_sign_table, d_sign_counts, d_is_primitive, d_composed_substitution, d_fixed_beginning, d_is_balanced_word, d_law_next, d_law, d_Substitution_init, d_Substitution_put, d_Substitution_put_often]
theorem fnd_is_number : Px.fndD defs "" "is_number" = some d_is_number := by rfl
theorem fnd_is_word : Px.fndD defs "" "is_word" = some d_is_word := by rfl
theorem fnd_turned : Px.fndD defs "" "turned" = some d_turned := by rfl
theorem fnd_least_turn : Px.fndD defs "" "least_turn" = some d_least_turn := by rfl
theorem fnd_least_period : Px.fndD defs "" "least_period" = some d_least_period := by rfl
theorem fnd_root_of : Px.fndD defs "" "root_of" = some d_root_of := by rfl
theorem fnd_common_divisor : Px.fndD defs "" "common_divisor" = some d_common_divisor := by rfl
theorem fnd_check_steps : Px.fndD defs "" "check_steps" = some d_check_steps := by rfl
theorem fnd_lower_word : Px.fndD defs "" "lower_word" = some d_lower_word := by rfl
theorem fnd_middle_word : Px.fndD defs "" "middle_word" = some d_middle_word := by rfl
theorem fnd_is_even_ring : Px.fndD defs "" "is_even_ring" = some d_is_even_ring := by rfl
theorem fnd_told_slope : Px.fndD defs "" "told_slope" = some d_told_slope := by rfl
theorem fnd_is_lower : Px.fndD defs "" "is_lower" = some d_is_lower := by rfl
theorem fnd_tree_way : Px.fndD defs "" "tree_way" = some d_tree_way := by rfl
theorem fnd_pair_of_way : Px.fndD defs "" "pair_of_way" = some d_pair_of_way := by rfl
theorem fnd_put_words : Px.fndD defs "" "put_words" = some d_put_words := by rfl
theorem fnd_times_table : Px.fndD defs "" "times_table" = some d_times_table := by rfl
theorem fnd_sign_table : Px.fndD defs "" "sign_table" = some d_sign_table := by rfl
theorem fnd_sign_counts : Px.fndD defs "" "sign_counts" = some d_sign_counts := by rfl
theorem fnd_is_primitive : Px.fndD defs "" "is_primitive" = some d_is_primitive := by rfl
theorem fnd_composed_substitution : Px.fndD defs "" "composed_substitution" = some d_composed_substitution := by rfl
theorem fnd_fixed_beginning : Px.fndD defs "" "fixed_beginning" = some d_fixed_beginning := by rfl
theorem fnd_is_balanced_word : Px.fndD defs "" "is_balanced_word" = some d_is_balanced_word := by rfl
theorem fnd_law_next : Px.fndD defs "" "_law_next" = some d_law_next := by rfl
theorem fnd_law : Px.fndD defs "" "law" = some d_law := by rfl
theorem fnd_Substitution_init : Px.fndD defs "Substitution" "__init__" = some d_Substitution_init := by rfl
theorem fnd_Substitution_put : Px.fndD defs "Substitution" "put" = some d_Substitution_put := by rfl
theorem fnd_Substitution_put_often : Px.fndD defs "Substitution" "put_often" = some d_Substitution_put_often := by rfl
end LW
set_option Elab.async false
set_option maxHeartbeats 4000000
set_option linter.all false
set_option maxRecDepth 100000
namespace LW
open PySem L2 Px Py Tv
abbrev eK_Substitution : ((List (List Int))) → D := fun p => .obj "Substitution" ["words"] [(eT (eT eI)) p]
theorem f_Substitution_words {p : (List (List Int))} : primF (.fld "words") [eK_Substitution p] = some ((eT (eT eI)) p) := by rfl
def F_is_number (p_value : Int) : Option Bool :=
  some ((true && ((!false) && (decide ((0 : Int) ≤ p_value)))))
theorem x_is_number {G : Sig}  {p_value : Int} {r : Bool} (h : F_is_number p_value = some r) : X G d_is_number.body [some (.dat (eI p_value))] (fun fl _ => match fl with | .nx => Px.Slot.dat (eB r) = Px.Slot.dat .non | .ret s => Px.Slot.dat (eB r) = s | _ => False) := by
  rw [d_is_number]
  unfold F_is_number at h
  refine x_ret (d := Px.Slot.dat (eB ((true && ((!false) && (decide ((0 : Int) ≤ p_value))))))) (v_bop (e_bop (e_andT (ev_eq (e_isi (ty := .int) (d := eI p_value) (o_slot rfl) rfl rfl) rfl) (e_andT (e_not (ev_eq (e_isi (ty := .bool) (d := eI p_value) (o_slot rfl) rfl rfl) rfl)) (e_bop1 (e_prim (os_cons (o_slot rfl) (os_cons (o_ex (e_con)) os_nil)) rfl (p_ge))))))) ?_
  cases h
  exact rfl
theorem w_is_number {k : Nat} {p_value : Int} {r : Bool} (h : F_is_number p_value = some r) : callV (sigOf defs (k + 1)) "is_number" [eI p_value] = .ok (Px.Slot.dat (eB r)) :=
  callV_run fnd_is_number ⟨rfl, by decide⟩ (x_is_number  h)
def F_is_word (p_value : List Int) (p_signs : Int) : Option Bool :=
  (if true = true then ((compO (fun (x1 : Int) => (F_is_number x1).bind fun v2 => some (some ((v2 && (decide (x1 < p_signs)))))) p_value).bind shortL).bind fun v3 => some ((v3.all id)) else some false).bind fun v4 =>
  some v4
theorem x_is_word {G : Sig} (c_is_number : ∀ {p0 : Int} {r : Bool}, F_is_number p0 = some r → callV G "is_number" [eI p0] = .ok (Px.Slot.dat (eB r))) {p_value : List Int} {p_signs : Int} {r : Bool} (h : F_is_word p_value p_signs = some r) : X G d_is_word.body [some (.dat ((eT eI) p_value)), some (.dat (eI p_signs)), none] (fun fl _ => match fl with | .nx => Px.Slot.dat (eB r) = Px.Slot.dat .non | .ret s => Px.Slot.dat (eB r) = s | _ => False) := by
  rw [d_is_word]
  unfold F_is_word at h
  obtain ⟨v4, hv4, h⟩ := bindS h
  refine x_ret (d := Px.Slot.dat (eB v4)) (v_bop (e_bop (e_and (ev_eq (e_isi (ty := .tuple) (d := (eT eI) p_value) (o_slot rfl) rfl rfl) rfl) (fun w h => by
      obtain ⟨v3, hv3, h⟩ := bindS h
      cases h
      exact e_bop1 (e_prim (os_cons (o_ex (e_comp (ex := eI) (ey := eB) [some (.dat ((eT eI) p_value)), some (.dat (eI p_signs)), none] _ (es_cons (e_var rfl) es_nil) (it_tup) rfl rfl (fun x1 r h => by
      obtain ⟨v2, hv2, h⟩ := bindS h
      cases h
      exact ⟨_, _, _, rfl, c_nil, rfl, _, e_bop (e_andT (e_call (ds := [eI x1]) (s := Px.Slot.dat (eB v2)) (os_cons (o_ex (e_var rfl)) os_nil) (c_is_number hv2)) (e_bop1 (e_prim (os_cons (o_slot rfl) (os_cons (o_slot rfl) os_nil)) rfl (p_lt)))), same_seq, rfl⟩) hv3 rfl)) os_nil) rfl (pAll))) hv4))) ?_
  cases h
  exact rfl
theorem w_is_word {k : Nat} {p_value : List Int} {p_signs : Int} {r : Bool} (h : F_is_word p_value p_signs = some r) : callV (sigOf defs (k + 2)) "is_word" [(eT eI) p_value, eI p_signs] = .ok (Px.Slot.dat (eB r)) :=
  callV_run fnd_is_word ⟨rfl, by decide⟩ (x_is_word (fun h => w_is_number (k := k + 0) h) h)
def F_Substitution_init (p_words : List (List Int)) : Option ((List (List Int))) :=
  ((compO (fun (x1 : List Int) =>  some (some x1)) p_words).bind shortL).bind fun v2 =>
  (eqF ((eT (eT eI)) v2) ((eT eI) ([]))).bind fun v3 =>
  (if v3 = true then some true else ((compO (fun (x4 : List Int) => (F_is_word x4 (((v2.length : Nat) : Int))).bind fun v5 => (if v5 = true then (eqT x4 ([])).bind fun v6 => some ((!v6)) else some false).bind fun v7 => some (some v7)) v2).bind shortL).bind fun v8 => some ((!((v8.all id))))).bind fun v9 =>
  if v9 = true then
    none
  else
    some v2
theorem x_Substitution_init {G : Sig} (hf_words : G.fld "Substitution" "words" = true) (c_is_word : ∀ {p0 : List Int} {p1 : Int} {r : Bool}, F_is_word p0 p1 = some r → callV G "is_word" [(eT eI) p0, eI p1] = .ok (Px.Slot.dat (eB r))) {p_words : List (List Int)} {r : (List (List Int))} (h : F_Substitution_init p_words = some r) : X G d_Substitution_init.body [some (.mo (.ins "Substitution" [] [])), some (.dat ((eL (eT eI)) p_words)), none] (fun fl ρ'' => (fl = .nx ∨ fl = .ret (.dat .non)) ∧ getS ρ'' 0 = some (.mo (.ins "Substitution" ["words"] [(eT (eT eI)) r]))) := by
  rw [d_Substitution_init]
  unfold F_Substitution_init at h
  obtain ⟨v2, hv2, h⟩ := bindS h
  refine x_set (d := (eT (eT eI)) v2) (e_prim (os_cons (o_ex (e_comp (ex := (eT eI)) (ey := (eT eI)) [some (.mo (.ins "Substitution" [] [])), some (.dat ((eL (eT eI)) p_words)), none] _ (es_cons (e_var rfl) es_nil) (it_lst) rfl rfl (fun x1 r h => by
      cases h
      exact ⟨_, _, _, rfl, c_nil, rfl, _, e_prim (os_cons (o_slot rfl) os_nil) rfl (pTupT (e := eI)), same_seq, rfl⟩) hv2 rfl)) os_nil) rfl (pTupL (e := (eT eI)))) ?_
  change X _ _ [some (.mo (.ins "Substitution" [] [])), some (.dat ((eT (eT eI)) v2)), none] _
  obtain ⟨v3, hv3, h⟩ := bindS h
  obtain ⟨v9, hv9, h⟩ := bindS h
  refine x_ite (t_bop (c_or (t_val (o_ex (e_prim (os_cons (o_slot rfl) (os_cons (o_ex (e_tup (es_nil))) os_nil)) rfl (pEqD hv3))) rfl rfl) (fun w h => by
      obtain ⟨v8, hv8, h⟩ := bindS h
      cases h
      exact c_one (t_not (t_val (o_ex (e_prim (os_cons (o_ex (e_comp (ex := (eT eI)) (ey := eB) [some (.mo (.ins "Substitution" [] [])), some (.dat ((eT (eT eI)) v2)), none] _ (es_cons (e_var rfl) es_nil) (it_tup) rfl rfl (fun x4 r h => by
      obtain ⟨v5, hv5, h⟩ := bindS h
      obtain ⟨v7, hv7, h⟩ := bindS h
      cases h
      exact ⟨_, _, _, rfl, c_nil, rfl, _, e_bop (e_and (e_call (ds := [(eT eI) x4, eI (((v2.length : Nat) : Int))]) (s := Px.Slot.dat (eB v5)) (os_cons (o_ex (e_var rfl)) (os_cons (o_ex (e_prim (os_cons (o_slot rfl) os_nil) rfl (pLenT (e := (eT eI))))) os_nil)) (c_is_word hv5)) (fun w h => by
      obtain ⟨v6, hv6, h⟩ := bindS h
      cases h
      exact e_bop1 (e_prim (os_cons (o_slot rfl) (os_cons (o_ex (e_tup (es_nil))) os_nil)) rfl (pNeT (xs := x4) (ys := []) hv6))) hv7), same_seq, rfl⟩) hv8 rfl)) os_nil) rfl (pAll))) rfl rfl))) hv9)) (fun hc10 => ?_) (fun hc10 => ?_)
  · rw [if_pos hc10] at h
    simp only [List.cons_append, List.nil_append]
    cases h
  · rw [if_neg (by rw [hc10]; exact Bool.false_ne_true)] at h
    simp only [List.cons_append, List.nil_append]
    refine x_setf (d := (eT (eT eI)) v2) (e_var rfl) rfl hf_words rfl (by decide) ?_
    change X _ _ [some (.mo (.ins "Substitution" ["words"] [(eT (eT eI)) v2])), some (.dat ((eT (eT eI)) v2)), none] _
    cases h
    exact x_nil ⟨.inl rfl, rfl⟩
theorem w_Substitution_init {k : Nat} {p_words : List (List Int)} {r : (List (List Int))} (h : F_Substitution_init p_words = some r) : makeR (sigOf defs (k + 4)) "Substitution" [(eL (eT eI)) p_words] = .ok (eK_Substitution r) :=
  makeR_run fnd_Substitution_init (by decide) ⟨rfl, by decide⟩ (by rfl) (x_Substitution_init (by rfl) (fun h => w_is_word (k := k + 0) h) h)
def F_Substitution_put_l1 (c_self : (List (List Int))) (c_word : List Int) (x_1 : Int) (s_found : List Int) : Option (Fl ((List Int)) (List Int)) :=
  (atI c_self x_1).bind fun v2 =>
  (catZ s_found v2).bind fun v3 =>
  some (.nx v3)
theorem x_Substitution_put_l1 {G : Sig}  {c_self : (List (List Int))} {c_word : List Int} {x_1 : Int} {s_found : List Int}  {r : Fl ((List Int)) (List Int)} (h : F_Substitution_put_l1 c_self c_word x_1 s_found = some r) : X G [.aug 2 .Add (.prim .ix [.ex (.prim (.fld "words") [.slot 0]), .slot 3])] [some (.dat (eK_Substitution c_self)), some (.dat ((eT eI) c_word)), some (.dat ((eT eI) s_found)), some (.dat (eI x_1))] (FlK (fun (s' : (List Int)) ρ'' => ∃ y3, ρ'' = [some (.dat (eK_Substitution c_self)), some (.dat ((eT eI) c_word)), some (.dat ((eT eI) s')), dO y3]) (fun (b : List Int) => Px.Slot.dat ((eT eI) b)) r) := by
  unfold F_Substitution_put_l1 at h
  obtain ⟨v2, hv2, h⟩ := bindS h
  obtain ⟨v3, hv3, h⟩ := bindS h
  refine x_aug (z := (eT eI) v3) rfl (e_prim (os_cons (o_ex (e_prim (os_cons (o_slot rfl) os_nil) rfl (f_Substitution_words))) (os_cons (o_slot rfl) os_nil)) rfl (pIxT (e := (eT eI)) hv2)) (aCatT (e := eI) hv3) ?_
  change X _ _ [some (.dat (eK_Substitution c_self)), some (.dat ((eT eI) c_word)), some (.dat ((eT eI) v3)), some (.dat (eI x_1))] _
  cases h
  exact x_nil ⟨.inl rfl, ⟨(some (eI x_1)), rfl⟩⟩
def F_Substitution_put (p_self : (List (List Int))) (p_word : List Int) : Option (List Int) :=
  (some ([])).bind fun a1 =>
  (forS (fun x_1 st => F_Substitution_put_l1 p_self p_word x_1 st) p_word a1).bind fun o4 =>
  match o4 with
  | .ret b => some b
  | .nx s5 =>
    some s5
theorem x_Substitution_put {G : Sig}  {p_self : (List (List Int))} {p_word : List Int} {r : List Int} (h : F_Substitution_put p_self p_word = some r) : X G d_Substitution_put.body [some (.dat (eK_Substitution p_self)), some (.dat ((eT eI) p_word)), none, none] (fun fl _ => match fl with | .nx => Px.Slot.dat ((eT eI) r) = Px.Slot.dat .non | .ret s => Px.Slot.dat ((eT eI) r) = s | _ => False) := by
  rw [d_Substitution_put]
  unfold F_Substitution_put at h
  obtain ⟨a1, ha1, h⟩ := bindS h
  have ha1 := Option.some.inj ha1
  refine x_set (d := (eT eI) a1) (ev_eq (e_tup (es_nil)) (congrArg (eT eI) ha1)) ?_
  change X _ _ [some (.dat (eK_Substitution p_self)), some (.dat ((eT eI) p_word)), some (.dat ((eT eI) a1)), none] _
  obtain ⟨o4, ho4, h⟩ := bindS h
  refine x_forK (ex := eI) (fun (st : (List Int)) ρ' => ∃ y3, ρ' = [some (.dat (eK_Substitution p_self)), some (.dat ((eT eI) p_word)), some (.dat ((eT eI) st)), dO y3]) (fun (b : List Int) => Px.Slot.dat ((eT eI) b)) (fun x_1 st => F_Substitution_put_l1 p_self p_word x_1 st) (es_cons (e_var rfl) es_nil) (it_tup) (by decide) ⟨none, rfl⟩ (fun x_1 st r ρ' hR hx => ?_) ho4 (fun s5 ρ' e hR => ?_) (fun b ρ' e => ?_)
  · obtain ⟨y3, rfl⟩ := hR
    refine ⟨_, rfl, ?_⟩
    exact x_mono (fun fl ρ'' hk => ⟨same_seq, hk⟩) (x_Substitution_put_l1  (c_self := p_self) (c_word := p_word) (x_1 := x_1) (s_found := st) hx)
  · subst e
    obtain ⟨y3, rfl⟩ := hR
    change X _ _ [some (.dat (eK_Substitution p_self)), some (.dat ((eT eI) p_word)), some (.dat ((eT eI) s5)), dO y3] _
    refine x_ret (d := Px.Slot.dat ((eT eI) s5)) (v_var rfl) ?_
    cases h
    exact rfl
  · subst e
    cases h
    exact rfl
theorem w_Substitution_put {k : Nat} {p_self : (List (List Int))} {p_word : List Int} {r : List Int} (h : F_Substitution_put p_self p_word = some r) : methR (sigOf defs (k + 1)) (eK_Substitution p_self) "put" [(eT eI) p_word] = .ok (Px.Slot.dat ((eT eI) r)) :=
  methR_run fnd_Substitution_put ⟨by decide, by decide⟩ rfl ⟨rfl, by decide⟩ (x_Substitution_put  h)
def F_composed_substitution (p_first : (List (List Int))) (p_second : (List (List Int))) : Option ((List (List Int))) :=
  ((compO (fun (x1 : List Int) => (F_Substitution_put p_first x1).bind fun v2 => some (some v2)) p_second).bind shortL).bind fun v3 =>
  (F_Substitution_init v3).bind fun v4 =>
  some v4
theorem x_composed_substitution {G : Sig} (c_Substitution_init : ∀ {p0 : List (List Int)} {r : (List (List Int))}, F_Substitution_init p0 = some r → makeR G "Substitution" [(eL (eT eI)) p0] = .ok (eK_Substitution r)) (c_Substitution_put : ∀ {p0 : (List (List Int))} {p1 : List Int} {r : List Int}, F_Substitution_put p0 p1 = some r → methR G (eK_Substitution p0) "put" [(eT eI) p1] = .ok (Px.Slot.dat ((eT eI) r))) {p_first : (List (List Int))} {p_second : (List (List Int))} {r : (List (List Int))} (h : F_composed_substitution p_first p_second = some r) : X G d_composed_substitution.body [some (.dat (eK_Substitution p_first)), some (.dat (eK_Substitution p_second)), none] (fun fl _ => match fl with | .nx => Px.Slot.dat (eK_Substitution r) = Px.Slot.dat .non | .ret s => Px.Slot.dat (eK_Substitution r) = s | _ => False) := by
  rw [d_composed_substitution]
  unfold F_composed_substitution at h
  obtain ⟨v3, hv3, h⟩ := bindS h
  obtain ⟨v4, hv4, h⟩ := bindS h
  refine x_ret (d := Px.Slot.dat (eK_Substitution v4)) (v_make (e_make (es_cons (e_comp (ex := (eT eI)) (ey := (eT eI)) [some (.dat (eK_Substitution p_first)), some (.dat (eK_Substitution p_second)), none] _ (es_cons (e_prim (os_cons (o_slot rfl) os_nil) rfl (f_Substitution_words)) es_nil) (it_tup) rfl rfl (fun x1 r h => by
      obtain ⟨v2, hv2, h⟩ := bindS h
      cases h
      exact ⟨_, _, _, rfl, c_nil, rfl, _, e_meth (s := Px.Slot.dat ((eT eI) v2)) (e_var rfl) (es_cons (e_var rfl) (es_nil)) (c_Substitution_put hv2), same_seq, rfl⟩) hv3 rfl) (es_nil)) (c_Substitution_init hv4))) ?_
  cases h
  exact rfl
theorem w_composed_substitution {k : Nat} {p_first : (List (List Int))} {p_second : (List (List Int))} {r : (List (List Int))} (h : F_composed_substitution p_first p_second = some r) : callV (sigOf defs (k + 5)) "composed_substitution" [eK_Substitution p_first, eK_Substitution p_second] = .ok (Px.Slot.dat (eK_Substitution r)) :=
  callV_run fnd_composed_substitution ⟨rfl, by decide⟩ (x_composed_substitution (fun h => w_Substitution_init (k := k + 0) h) (fun h => w_Substitution_put (k := k + 3) h) h)
def F_pair_of_way_l1 (c_way : List Int) (x_1 : Int) (s_low : List Int) (s_high : List Int) : Option (Fl ((List Int) × (List Int)) (List Int)) :=
  (atI s_low ((0 : Int))).bind fun v3 =>
  (atI s_high ((0 : Int))).bind fun v4 =>
  (atI s_low ((1 : Int))).bind fun v5 =>
  (atI s_high ((1 : Int))).bind fun v6 =>
  (some ([(v3 + v4), (v5 + v6)])).bind fun a7 =>
  (unp2 ((if (decide (x_1 = (0 : Int))) = true then [s_low, a7] else [a7, s_high]))).bind fun v8 =>
  some (.nx ((v8.1, v8.2)))
theorem x_pair_of_way_l1 {G : Sig}  {c_way : List Int} {x_1 : Int} {s_low : List Int} {s_high : List Int} {y4 : Option D} {r : Fl ((List Int) × (List Int)) (List Int)} (h : F_pair_of_way_l1 c_way x_1 s_low s_high = some r) : X G [.set false 4 (.dsp true [.prim (.bin .Add) [.ex (.prim .ix [.slot 2, .ex (.con (.int 0))]), .ex (.prim .ix [.slot 3, .ex (.con (.int 0))])], .prim (.bin .Add) [.ex (.prim .ix [.slot 2, .ex (.con (.int 1))]), .ex (.prim .ix [.slot 3, .ex (.con (.int 1))])]]), .upk [2, 3] (.ite (.val (.ex (.prim (.cmp .Eq) [.slot 1, .ex (.con (.int 0))]))) (.dsp true [.var 2, .var 4]) (.dsp true [.var 4, .var 3]))] [some (.dat ((eT eI) c_way)), some (.dat (eI x_1)), some (.dat ((eT eI) s_low)), some (.dat ((eT eI) s_high)), dO y4] (FlK (fun (s' : (List Int) × (List Int)) ρ'' => ∃ y1, ∃ y4, ρ'' = [some (.dat ((eT eI) c_way)), dO y1, some (.dat ((eT eI) s'.1)), some (.dat ((eT eI) s'.2)), dO y4]) (fun (b : List Int) => Px.Slot.dat ((eT eI) b)) r) := by
  unfold F_pair_of_way_l1 at h
  obtain ⟨v3, hv3, h⟩ := bindS h
  obtain ⟨v4, hv4, h⟩ := bindS h
  obtain ⟨v5, hv5, h⟩ := bindS h
  obtain ⟨v6, hv6, h⟩ := bindS h
  obtain ⟨a7, ha7, h⟩ := bindS h
  have ha7 := Option.some.inj ha7
  refine x_set (d := (eT eI) a7) (ev_eq (e_tup (es_cons (e_prim (os_cons (o_ex (e_prim (os_cons (o_slot rfl) (os_cons (o_ex (e_con)) os_nil)) rfl (pIxT (e := eI) hv3))) (os_cons (o_ex (e_prim (os_cons (o_slot rfl) (os_cons (o_ex (e_con)) os_nil)) rfl (pIxT (e := eI) hv4))) os_nil)) rfl (p_add)) (es_cons (e_prim (os_cons (o_ex (e_prim (os_cons (o_slot rfl) (os_cons (o_ex (e_con)) os_nil)) rfl (pIxT (e := eI) hv5))) (os_cons (o_ex (e_prim (os_cons (o_slot rfl) (os_cons (o_ex (e_con)) os_nil)) rfl (pIxT (e := eI) hv6))) os_nil)) rfl (p_add)) (es_nil)))) (congrArg (eT eI) ha7)) ?_
  change X _ _ [some (.dat ((eT eI) c_way)), some (.dat (eI x_1)), some (.dat ((eT eI) s_low)), some (.dat ((eT eI) s_high)), some (.dat ((eT eI) a7))] _
  obtain ⟨v8, hv8, h⟩ := bindS h
  refine x_upk (d := (eT (eT eI)) [v8.1, v8.2]) (ev_eq (e_iteT (e := (eT (eT eI))) (t_val (o_ex (e_prim (os_cons (o_slot rfl) (os_cons (o_ex (e_con)) os_nil)) rfl (p_eq))) rfl rfl) (e_tup (es_cons (e_var rfl) (es_cons (e_var rfl) (es_nil)))) (e_tup (es_cons (e_var rfl) (es_cons (e_var rfl) (es_nil))))) (congrArg (eT (eT eI)) (unp2_ok hv8))) rfl ?_
  change X _ _ [some (.dat ((eT eI) c_way)), some (.dat (eI x_1)), some (.dat ((eT eI) v8.1)), some (.dat ((eT eI) v8.2)), some (.dat ((eT eI) a7))] _
  cases h
  exact x_nil ⟨.inl rfl, ⟨(some (eI x_1)), (some ((eT eI) a7)), rfl⟩⟩
def F_pair_of_way (p_way : List Int) : Option (List Int) :=
  (some ([(1 : Int), (0 : Int)])).bind fun a1 =>
  (some ([(0 : Int), (1 : Int)])).bind fun a2 =>
  (forS (fun x_1 st => F_pair_of_way_l1 p_way x_1 st.1 st.2) p_way (a1, a2)).bind fun o9 =>
  match o9 with
  | .ret b => some b
  | .nx s10 =>
    (atI s10.1 ((0 : Int))).bind fun v11 =>
    (atI s10.2 ((0 : Int))).bind fun v12 =>
    (atI s10.1 ((1 : Int))).bind fun v13 =>
    (atI s10.2 ((1 : Int))).bind fun v14 =>
    some ([(v11 + v12), (v13 + v14)])
theorem x_pair_of_way {G : Sig}  {p_way : List Int} {r : List Int} (h : F_pair_of_way p_way = some r) : X G d_pair_of_way.body [some (.dat ((eT eI) p_way)), none, none, none, none] (fun fl _ => match fl with | .nx => Px.Slot.dat ((eT eI) r) = Px.Slot.dat .non | .ret s => Px.Slot.dat ((eT eI) r) = s | _ => False) := by
  rw [d_pair_of_way]
  unfold F_pair_of_way at h
  obtain ⟨a1, ha1, h⟩ := bindS h
  have ha1 := Option.some.inj ha1
  obtain ⟨a2, ha2, h⟩ := bindS h
  have ha2 := Option.some.inj ha2
  refine x_upk (d := .tup [(eT eI) a1, (eT eI) a2]) (e_tup (es_cons (ev_eq (e_tup (es_cons (e_con) (es_cons (e_con) (es_nil)))) (congrArg (eT eI) ha1)) (es_cons (ev_eq (e_tup (es_cons (e_con) (es_cons (e_con) (es_nil)))) (congrArg (eT eI) ha2)) (es_nil)))) rfl ?_
  change X _ _ [some (.dat ((eT eI) p_way)), none, some (.dat ((eT eI) a1)), some (.dat ((eT eI) a2)), none] _
  obtain ⟨o9, ho9, h⟩ := bindS h
  refine x_forK (ex := eI) (fun (st : (List Int) × (List Int)) ρ' => ∃ y1, ∃ y4, ρ' = [some (.dat ((eT eI) p_way)), dO y1, some (.dat ((eT eI) st.1)), some (.dat ((eT eI) st.2)), dO y4]) (fun (b : List Int) => Px.Slot.dat ((eT eI) b)) (fun x_1 st => F_pair_of_way_l1 p_way x_1 st.1 st.2) (es_cons (e_var rfl) es_nil) (it_tup) (by decide) ⟨none, none, rfl⟩ (fun x_1 st r ρ' hR hx => ?_) ho9 (fun s10 ρ' e hR => ?_) (fun b ρ' e => ?_)
  · obtain ⟨y1, y4, rfl⟩ := hR
    refine ⟨_, rfl, ?_⟩
    exact x_mono (fun fl ρ'' hk => ⟨same_seq, hk⟩) (x_pair_of_way_l1  (c_way := p_way) (x_1 := x_1) (s_low := st.1) (s_high := st.2) hx)
  · subst e
    obtain ⟨y1, y4, rfl⟩ := hR
    change X _ _ [some (.dat ((eT eI) p_way)), dO y1, some (.dat ((eT eI) s10.1)), some (.dat ((eT eI) s10.2)), dO y4] _
    obtain ⟨v11, hv11, h⟩ := bindS h
    obtain ⟨v12, hv12, h⟩ := bindS h
    obtain ⟨v13, hv13, h⟩ := bindS h
    obtain ⟨v14, hv14, h⟩ := bindS h
    refine x_ret (d := Px.Slot.dat ((eT eI) ([(v11 + v12), (v13 + v14)]))) (v_tup (e_tup (es_cons (e_prim (os_cons (o_ex (e_prim (os_cons (o_slot rfl) (os_cons (o_ex (e_con)) os_nil)) rfl (pIxT (e := eI) hv11))) (os_cons (o_ex (e_prim (os_cons (o_slot rfl) (os_cons (o_ex (e_con)) os_nil)) rfl (pIxT (e := eI) hv12))) os_nil)) rfl (p_add)) (es_cons (e_prim (os_cons (o_ex (e_prim (os_cons (o_slot rfl) (os_cons (o_ex (e_con)) os_nil)) rfl (pIxT (e := eI) hv13))) (os_cons (o_ex (e_prim (os_cons (o_slot rfl) (os_cons (o_ex (e_con)) os_nil)) rfl (pIxT (e := eI) hv14))) os_nil)) rfl (p_add)) (es_nil))))) ?_
    cases h
    exact rfl
  · subst e
    cases h
    exact rfl
theorem w_pair_of_way {k : Nat} {p_way : List Int} {r : List Int} (h : F_pair_of_way p_way = some r) : callV (sigOf defs (k + 1)) "pair_of_way" [(eT eI) p_way] = .ok (Px.Slot.dat ((eT eI) r)) :=
  callV_run fnd_pair_of_way ⟨rfl, by decide⟩ (x_pair_of_way  h)
def F_put_words_l2 (c_way : List Int) (c_word : List Int) (c_sign : Int) (c_rows : List (List Int)) (x_2 : Int) (s_found : List Int) : Option (Fl ((List Int)) (List Int)) :=
  (atI c_rows x_2).bind fun v4 =>
  (catZ s_found v4).bind fun v5 =>
  some (.nx v5)
theorem x_put_words_l2 {G : Sig}  {c_way : List Int} {c_word : List Int} {c_sign : Int} {c_rows : List (List Int)} {x_2 : Int} {s_found : List Int}  {r : Fl ((List Int)) (List Int)} (h : F_put_words_l2 c_way c_word c_sign c_rows x_2 s_found = some r) : X G [.aug 4 .Add (.prim .ix [.slot 3, .slot 5])] [some (.dat ((eT eI) c_way)), some (.dat ((eT eI) c_word)), some (.dat (eI c_sign)), some (.dat ((eT (eT eI)) c_rows)), some (.dat ((eT eI) s_found)), some (.dat (eI x_2))] (FlK (fun (s' : (List Int)) ρ'' => ∃ y5, ρ'' = [some (.dat ((eT eI) c_way)), some (.dat ((eT eI) c_word)), some (.dat (eI c_sign)), some (.dat ((eT (eT eI)) c_rows)), some (.dat ((eT eI) s')), dO y5]) (fun (b : List Int) => Px.Slot.dat ((eT eI) b)) r) := by
  unfold F_put_words_l2 at h
  obtain ⟨v4, hv4, h⟩ := bindS h
  obtain ⟨v5, hv5, h⟩ := bindS h
  refine x_aug (z := (eT eI) v5) rfl (e_prim (os_cons (o_slot rfl) (os_cons (o_slot rfl) os_nil)) rfl (pIxT (e := (eT eI)) hv4)) (aCatT (e := eI) hv5) ?_
  change X _ _ [some (.dat ((eT eI) c_way)), some (.dat ((eT eI) c_word)), some (.dat (eI c_sign)), some (.dat ((eT (eT eI)) c_rows)), some (.dat ((eT eI) v5)), some (.dat (eI x_2))] _
  cases h
  exact x_nil ⟨.inl rfl, ⟨(some (eI x_2)), rfl⟩⟩
def F_put_words_l1 (c_way : List Int) (x_1 : Int) (s_word : List Int) : Option (Fl ((List Int)) (List Int)) :=
  (some ((if (decide (x_1 = (0 : Int))) = true then [[(0 : Int)], [(0 : Int), (1 : Int)]] else [[(0 : Int), (1 : Int)], [(1 : Int)]]))).bind fun a2 =>
  (some ([])).bind fun a3 =>
  (forS (fun x_2 st => F_put_words_l2 c_way s_word x_1 a2 x_2 st) s_word a3).bind fun o6 =>
  match o6 with
  | .ret b => some (.ret b)
  | .nx s7 =>
    some (.nx s7)
theorem x_put_words_l1 {G : Sig}  {c_way : List Int} {x_1 : Int} {s_word : List Int} {y3 : Option D} {y4 : Option D} {y5 : Option D} {r : Fl ((List Int)) (List Int)} (h : F_put_words_l1 c_way x_1 s_word = some r) : X G [.set false 3 (.ite (.val (.ex (.prim (.cmp .Eq) [.slot 2, .ex (.con (.int 0))]))) (.dsp true [.dsp true [.con (.int 0)], .dsp true [.con (.int 0), .con (.int 1)]]) (.dsp true [.dsp true [.con (.int 0), .con (.int 1)], .dsp true [.con (.int 1)]])), .set false 4 (.dsp true []), .loop (false, [5]) .seq [.var 1] [
    .aug 4 .Add (.prim .ix [.slot 3, .slot 5])], .set false 1 (.var 4)] [some (.dat ((eT eI) c_way)), some (.dat ((eT eI) s_word)), some (.dat (eI x_1)), dO y3, dO y4, dO y5] (FlK (fun (s' : (List Int)) ρ'' => ∃ y2, ∃ y3, ∃ y4, ∃ y5, ρ'' = [some (.dat ((eT eI) c_way)), some (.dat ((eT eI) s')), dO y2, dO y3, dO y4, dO y5]) (fun (b : List Int) => Px.Slot.dat ((eT eI) b)) r) := by
  unfold F_put_words_l1 at h
  obtain ⟨a2, ha2, h⟩ := bindS h
  have ha2 := Option.some.inj ha2
  refine x_set (d := (eT (eT eI)) a2) (ev_eq (e_iteT (e := (eT (eT eI))) (t_val (o_ex (e_prim (os_cons (o_slot rfl) (os_cons (o_ex (e_con)) os_nil)) rfl (p_eq))) rfl rfl) (e_tup (es_cons (e_tup (es_cons (e_con) (es_nil))) (es_cons (e_tup (es_cons (e_con) (es_cons (e_con) (es_nil)))) (es_nil)))) (e_tup (es_cons (e_tup (es_cons (e_con) (es_cons (e_con) (es_nil)))) (es_cons (e_tup (es_cons (e_con) (es_nil))) (es_nil))))) (congrArg (eT (eT eI)) ha2)) ?_
  change X _ _ [some (.dat ((eT eI) c_way)), some (.dat ((eT eI) s_word)), some (.dat (eI x_1)), some (.dat ((eT (eT eI)) a2)), dO y4, dO y5] _
  obtain ⟨a3, ha3, h⟩ := bindS h
  have ha3 := Option.some.inj ha3
  refine x_set (d := (eT eI) a3) (ev_eq (e_tup (es_nil)) (congrArg (eT eI) ha3)) ?_
  change X _ _ [some (.dat ((eT eI) c_way)), some (.dat ((eT eI) s_word)), some (.dat (eI x_1)), some (.dat ((eT (eT eI)) a2)), some (.dat ((eT eI) a3)), dO y5] _
  obtain ⟨o6, ho6, h⟩ := bindS h
  refine x_forK (ex := eI) (fun (st : (List Int)) ρ' => ∃ y5, ρ' = [some (.dat ((eT eI) c_way)), some (.dat ((eT eI) s_word)), some (.dat (eI x_1)), some (.dat ((eT (eT eI)) a2)), some (.dat ((eT eI) st)), dO y5]) (fun (b : List Int) => Px.Slot.dat ((eT eI) b)) (fun x_2 st => F_put_words_l2 c_way s_word x_1 a2 x_2 st) (es_cons (e_var rfl) es_nil) (it_tup) (by decide) ⟨y5, rfl⟩ (fun x_2 st r ρ' hR hx => ?_) ho6 (fun s7 ρ' e hR => ?_) (fun b ρ' e => ?_)
  · obtain ⟨y5, rfl⟩ := hR
    refine ⟨_, rfl, ?_⟩
    exact x_mono (fun fl ρ'' hk => ⟨same_seq, hk⟩) (x_put_words_l2  (c_way := c_way) (c_word := s_word) (c_sign := x_1) (c_rows := a2) (x_2 := x_2) (s_found := st) hx)
  · subst e
    obtain ⟨y5, rfl⟩ := hR
    change X _ _ [some (.dat ((eT eI) c_way)), some (.dat ((eT eI) s_word)), some (.dat (eI x_1)), some (.dat ((eT (eT eI)) a2)), some (.dat ((eT eI) s7)), dO y5] _
    refine x_set (d := (eT eI) s7) (e_var rfl) ?_
    change X _ _ [some (.dat ((eT eI) c_way)), some (.dat ((eT eI) s7)), some (.dat (eI x_1)), some (.dat ((eT (eT eI)) a2)), some (.dat ((eT eI) s7)), dO y5] _
    cases h
    exact x_nil ⟨.inl rfl, ⟨(some (eI x_1)), (some ((eT (eT eI)) a2)), (some ((eT eI) s7)), y5, rfl⟩⟩
  · subst e
    cases h
    exact rfl
def F_put_words (p_way : List Int) : Option (List Int) :=
  (some ([(0 : Int), (1 : Int)])).bind fun a1 =>
  (forS (fun x_1 st => F_put_words_l1 p_way x_1 st) p_way.reverse a1).bind fun o8 =>
  match o8 with
  | .ret b => some b
  | .nx s9 =>
    some s9
theorem x_put_words {G : Sig}  {p_way : List Int} {r : List Int} (h : F_put_words p_way = some r) : X G d_put_words.body [some (.dat ((eT eI) p_way)), none, none, none, none, none] (fun fl _ => match fl with | .nx => Px.Slot.dat ((eT eI) r) = Px.Slot.dat .non | .ret s => Px.Slot.dat ((eT eI) r) = s | _ => False) := by
  rw [d_put_words]
  unfold F_put_words at h
  obtain ⟨a1, ha1, h⟩ := bindS h
  have ha1 := Option.some.inj ha1
  refine x_set (d := (eT eI) a1) (ev_eq (e_tup (es_cons (e_con) (es_cons (e_con) (es_nil)))) (congrArg (eT eI) ha1)) ?_
  change X _ _ [some (.dat ((eT eI) p_way)), some (.dat ((eT eI) a1)), none, none, none, none] _
  obtain ⟨o8, ho8, h⟩ := bindS h
  refine x_forK (ex := eI) (fun (st : (List Int)) ρ' => ∃ y2, ∃ y3, ∃ y4, ∃ y5, ρ' = [some (.dat ((eT eI) p_way)), some (.dat ((eT eI) st)), dO y2, dO y3, dO y4, dO y5]) (fun (b : List Int) => Px.Slot.dat ((eT eI) b)) (fun x_1 st => F_put_words_l1 p_way x_1 st) (es_cons (e_var rfl) es_nil) (it_revT) (by decide) ⟨none, none, none, none, rfl⟩ (fun x_1 st r ρ' hR hx => ?_) ho8 (fun s9 ρ' e hR => ?_) (fun b ρ' e => ?_)
  · obtain ⟨y2, y3, y4, y5, rfl⟩ := hR
    refine ⟨_, rfl, ?_⟩
    exact x_mono (fun fl ρ'' hk => ⟨same_rev, hk⟩) (x_put_words_l1  (c_way := p_way) (x_1 := x_1) (s_word := st) hx)
  · subst e
    obtain ⟨y2, y3, y4, y5, rfl⟩ := hR
    change X _ _ [some (.dat ((eT eI) p_way)), some (.dat ((eT eI) s9)), dO y2, dO y3, dO y4, dO y5] _
    refine x_ret (d := Px.Slot.dat ((eT eI) s9)) (v_var rfl) ?_
    cases h
    exact rfl
  · subst e
    cases h
    exact rfl
theorem w_put_words {k : Nat} {p_way : List Int} {r : List Int} (h : F_put_words p_way = some r) : callV (sigOf defs (k + 1)) "put_words" [(eT eI) p_way] = .ok (Px.Slot.dat ((eT eI) r)) :=
  callV_run fnd_put_words ⟨rfl, by decide⟩ (x_put_words  h)
def F_common_divisor_l1_c (s_first : Int) (s_second : Int) : Option Bool :=
  some ((decide ((0 : Int) < s_second)))
def F_common_divisor_l1 (s_first : Int) (s_second : Int) : Option (Fl (Int × Int) Int) :=
  (binI .Mod s_first s_second).bind fun v3 =>
  some (.nx ((s_second, v3)))
theorem x_common_divisor_l1 {G : Sig}  {s_first : Int} {s_second : Int}  {r : Fl (Int × Int) Int} (h : F_common_divisor_l1 s_first s_second = some r) : X G [.par false 0 false 1 (.var 1) (.prim (.bin .Mod) [.ex (.prim (.bi .int) [.slot 0]), .slot 1])] [some (.dat (eI s_first)), some (.dat (eI s_second))] (FlK (fun (s' : Int × Int) ρ'' => ρ'' = [some (.dat (eI s'.1)), some (.dat (eI s'.2))]) (fun (b : Int) => Px.Slot.dat (eI b)) r) := by
  unfold F_common_divisor_l1 at h
  obtain ⟨v3, hv3, h⟩ := bindS h
  refine x_par (d := eI s_second) (c := eI v3) (e_var rfl) (e_prim (os_cons (o_ex (e_prim (os_cons (o_slot rfl) os_nil) rfl (pInt))) (os_cons (o_slot rfl) os_nil)) rfl (pI hv3)) ?_
  change X _ _ [some (.dat (eI s_second)), some (.dat (eI v3))] _
  cases h
  exact x_nil ⟨.inl rfl, rfl⟩
theorem x_common_divisor_l1_c {G : Sig}  {s_first : Int} {s_second : Int}  {t : Bool} (h : F_common_divisor_l1_c s_first s_second = some t) : evT G (.val (.ex (.prim (.cmp .Gt) [.slot 1, .ex (.con (.int 0))]))) [some (.dat (eI s_first)), some (.dat (eI s_second))] = .ok (t, [some (.dat (eI s_first)), some (.dat (eI s_second))]) := by
  unfold F_common_divisor_l1_c at h
  cases h
  exact t_val (o_ex (e_prim (os_cons (o_slot rfl) (os_cons (o_ex (e_con)) os_nil)) rfl (p_gt))) rfl rfl
def F_common_divisor (p_first : Int) (p_second : Int) : Option Int :=
  (some ((if p_first < 0 then -p_first else p_first : Int))).bind fun a1 =>
  (some ((if p_second < 0 then -p_second else p_second : Int))).bind fun a2 =>
  (whileS (fun st => F_common_divisor_l1_c  st.1 st.2) (fun st => F_common_divisor_l1  st.1 st.2) wlim (a1, a2)).bind fun o4 =>
  match o4 with
  | .ret b => some b
  | .nx s5 =>
    some s5.1
theorem x_common_divisor {G : Sig}  {p_first : Int} {p_second : Int} {r : Int} (h : F_common_divisor p_first p_second = some r) : X G d_common_divisor.body [some (.dat (eI p_first)), some (.dat (eI p_second))] (fun fl _ => match fl with | .nx => Px.Slot.dat (eI r) = Px.Slot.dat .non | .ret s => Px.Slot.dat (eI r) = s | _ => False) := by
  rw [d_common_divisor]
  unfold F_common_divisor at h
  obtain ⟨a1, ha1, h⟩ := bindS h
  have ha1 := Option.some.inj ha1
  obtain ⟨a2, ha2, h⟩ := bindS h
  have ha2 := Option.some.inj ha2
  refine x_par (d := eI a1) (c := eI a2) (ev_eq (e_prim (os_cons (o_slot rfl) os_nil) rfl (pAbs)) (congrArg eI ha1)) (ev_eq (e_prim (os_cons (o_slot rfl) os_nil) rfl (pAbs)) (congrArg eI ha2)) ?_
  change X _ _ [some (.dat (eI a1)), some (.dat (eI a2))] _
  obtain ⟨o4, ho4, h⟩ := bindS h
  refine x_whileK (fun (st : Int × Int) ρ' => ρ' = [some (.dat (eI st.1)), some (.dat (eI st.2))]) (fun (b : Int) => Px.Slot.dat (eI b)) (fun st => F_common_divisor_l1_c  st.1 st.2) (fun st => F_common_divisor_l1  st.1 st.2) rfl (fun st t ρ' hR hc => ?_) (fun st r ρ' hR hc hx => ?_) ho4 (fun s5 ρ' e hR => ?_) (fun b ρ' e => ?_)
  · obtain rfl := hR
    exact ⟨_, x_common_divisor_l1_c   (s_first := st.1) (s_second := st.2) hc, rfl⟩
  · obtain rfl := hR
    exact x_common_divisor_l1   (s_first := st.1) (s_second := st.2) hx
  · subst e
    obtain rfl := hR
    change X _ _ [some (.dat (eI s5.1)), some (.dat (eI s5.2))] _
    refine x_ret (d := Px.Slot.dat (eI s5.1)) (v_var rfl) ?_
    cases h
    exact rfl
  · subst e
    cases h
    exact rfl
theorem w_common_divisor {k : Nat} {p_first : Int} {p_second : Int} {r : Int} (h : F_common_divisor p_first p_second = some r) : callV (sigOf defs (k + 1)) "common_divisor" [eI p_first, eI p_second] = .ok (Px.Slot.dat (eI r)) :=
  callV_run fnd_common_divisor ⟨rfl, by decide⟩ (x_common_divisor  h)
def F_check_steps (p_zeros : Int) (p_ones : Int) : Option Unit :=
  (if (decide (p_zeros < (0 : Int))) = true then some true else (if (decide (p_ones < (0 : Int))) = true then some true else (F_common_divisor p_zeros p_ones).bind fun v1 => some ((!decide (v1 = (1 : Int))))).bind fun v2 => some v2).bind fun v3 =>
  if v3 = true then
    none
  else
    some ()
theorem x_check_steps {G : Sig} (c_common_divisor : ∀ {p0 : Int} {p1 : Int} {r : Int}, F_common_divisor p0 p1 = some r → callV G "common_divisor" [eI p0, eI p1] = .ok (Px.Slot.dat (eI r))) {p_zeros : Int} {p_ones : Int} {r : Unit} (h : F_check_steps p_zeros p_ones = some r) : X G d_check_steps.body [some (.dat (eI p_zeros)), some (.dat (eI p_ones))] (fun fl _ => match fl with | .nx => Px.Slot.dat (eN r) = Px.Slot.dat .non | .ret s => Px.Slot.dat (eN r) = s | _ => False) := by
  rw [d_check_steps]
  unfold F_check_steps at h
  obtain ⟨v3, hv3, h⟩ := bindS h
  refine x_ite (t_bop (c_or (t_val (o_ex (e_prim (os_cons (o_slot rfl) (os_cons (o_ex (e_con)) os_nil)) rfl (p_lt))) rfl rfl) (fun w h => by
      obtain ⟨v2, hv2, h⟩ := bindS h
      cases h
      exact c_or (t_val (o_ex (e_prim (os_cons (o_slot rfl) (os_cons (o_ex (e_con)) os_nil)) rfl (p_lt))) rfl rfl) (fun w h => by
      obtain ⟨v1, hv1, h⟩ := bindS h
      cases h
      exact c_one (t_val (o_ex (e_prim (os_cons (o_ex (e_call (ds := [eI p_zeros, eI p_ones]) (s := Px.Slot.dat (eI v1)) (os_cons (o_ex (e_var rfl)) (os_cons (o_ex (e_var rfl)) os_nil)) (c_common_divisor hv1))) (os_cons (o_ex (e_con)) os_nil)) rfl (p_ne))) rfl rfl)) hv2) hv3)) (fun hc4 => ?_) (fun hc4 => ?_)
  · rw [if_pos hc4] at h
    simp only [List.cons_append, List.nil_append]
    cases h
  · rw [if_neg (by rw [hc4]; exact Bool.false_ne_true)] at h
    simp only [List.cons_append, List.nil_append]
    cases h
    exact x_nil (by first | exact rfl | trivial)
theorem w_check_steps {k : Nat} {p_zeros : Int} {p_ones : Int} {r : Unit} (h : F_check_steps p_zeros p_ones = some r) : callV (sigOf defs (k + 2)) "check_steps" [eI p_zeros, eI p_ones] = .ok (Px.Slot.dat (eN r)) :=
  callV_run fnd_check_steps ⟨rfl, by decide⟩ (x_check_steps (fun h => w_common_divisor (k := k + 0) h) h)
def F_lower_word_l1_c (c_zeros : Int) (c_ones : Int) (s_found : List Int) (s_x : Int) (s_y : Int) : Option Bool :=
  (eqT ([s_x, s_y]) ([c_zeros, c_ones])).bind fun v5 =>
  some ((!v5))
def F_lower_word_l1 (c_zeros : Int) (c_ones : Int) (s_found : List Int) (s_x : Int) (s_y : Int) : Option (Fl ((List Int) × Int × Int) (List Int)) :=
  (if (decide (s_x < c_zeros)) = true then (binI .Mult ((s_y + (1 : Int))) c_zeros).bind fun v6 => (binI .Mult c_ones s_x).bind fun v7 => some ((decide (v7 < v6))) else some false).bind fun v8 =>
  if v8 = true then
    (some ((s_x + (1 : Int)))).bind fun a9 =>
    (catZ s_found ([(0 : Int)])).bind fun v10 =>
    some (.nx ((v10, a9, s_y)))
  else
    (some ((s_y + (1 : Int)))).bind fun a11 =>
    (catZ s_found ([(1 : Int)])).bind fun v12 =>
    some (.nx ((v12, s_x, a11)))
theorem x_lower_word_l1 {G : Sig} (c_check_steps : ∀ {p0 : Int} {p1 : Int} {r : Unit}, F_check_steps p0 p1 = some r → callV G "check_steps" [eI p0, eI p1] = .ok (Px.Slot.dat (eN r))) {c_zeros : Int} {c_ones : Int} {s_found : List Int} {s_x : Int} {s_y : Int}  {r : Fl ((List Int) × Int × Int) (List Int)} (h : F_lower_word_l1 c_zeros c_ones s_found s_x s_y = some r) : X G [.ite (.bop true [.val (.ex (.prim (.cmp .Lt) [.slot 3, .slot 0])), .val (.ex (.prim (.cmp .Gt) [.ex (.prim (.bin .Mult) [.ex (.prim (.bin .Add) [.slot 4, .ex (.con (.int 1))]), .slot 0]), .ex (.prim (.bin .Mult) [.slot 1, .slot 3])]))]) [
    .aug 3 .Add (.con (.int 1)),
    .aug 2 .Add (.dsp true [.con (.int 0)])] [
    .aug 4 .Add (.con (.int 1)),
    .aug 2 .Add (.dsp true [.con (.int 1)])]] [some (.dat (eI c_zeros)), some (.dat (eI c_ones)), some (.dat ((eT eI) s_found)), some (.dat (eI s_x)), some (.dat (eI s_y))] (FlK (fun (s' : (List Int) × Int × Int) ρ'' => ρ'' = [some (.dat (eI c_zeros)), some (.dat (eI c_ones)), some (.dat ((eT eI) s'.1)), some (.dat (eI s'.2.1)), some (.dat (eI s'.2.2))]) (fun (b : List Int) => Px.Slot.dat ((eT eI) b)) r) := by
  unfold F_lower_word_l1 at h
  obtain ⟨v8, hv8, h⟩ := bindS h
  refine x_ite (t_bop (c_and (t_val (o_ex (e_prim (os_cons (o_slot rfl) (os_cons (o_slot rfl) os_nil)) rfl (p_lt))) rfl rfl) (fun w h => by
      obtain ⟨v6, hv6, h⟩ := bindS h
      obtain ⟨v7, hv7, h⟩ := bindS h
      cases h
      exact c_one (t_val (o_ex (e_prim (os_cons (o_ex (e_prim (os_cons (o_ex (e_prim (os_cons (o_slot rfl) (os_cons (o_ex (e_con)) os_nil)) rfl (p_add))) (os_cons (o_slot rfl) os_nil)) rfl (pI hv6))) (os_cons (o_ex (e_prim (os_cons (o_slot rfl) (os_cons (o_slot rfl) os_nil)) rfl (pI hv7))) os_nil)) rfl (p_gt))) rfl rfl)) hv8)) (fun hc13 => ?_) (fun hc13 => ?_)
  · rw [if_pos hc13] at h
    simp only [List.cons_append, List.nil_append]
    obtain ⟨a9, ha9, h⟩ := bindS h
    have ha9 := Option.some.inj ha9
    refine x_aug (z := eI a9) rfl (e_con) (congrArg (fun z => some (D.int z)) ha9) ?_
    change X _ _ [some (.dat (eI c_zeros)), some (.dat (eI c_ones)), some (.dat ((eT eI) s_found)), some (.dat (eI a9)), some (.dat (eI s_y))] _
    obtain ⟨v10, hv10, h⟩ := bindS h
    refine x_aug (z := (eT eI) v10) rfl (e_tup (es_cons (e_con) (es_nil))) (aCatT (e := eI) hv10) ?_
    change X _ _ [some (.dat (eI c_zeros)), some (.dat (eI c_ones)), some (.dat ((eT eI) v10)), some (.dat (eI a9)), some (.dat (eI s_y))] _
    cases h
    exact x_nil ⟨.inl rfl, rfl⟩
  · rw [if_neg (by rw [hc13]; exact Bool.false_ne_true)] at h
    simp only [List.cons_append, List.nil_append]
    obtain ⟨a11, ha11, h⟩ := bindS h
    have ha11 := Option.some.inj ha11
    refine x_aug (z := eI a11) rfl (e_con) (congrArg (fun z => some (D.int z)) ha11) ?_
    change X _ _ [some (.dat (eI c_zeros)), some (.dat (eI c_ones)), some (.dat ((eT eI) s_found)), some (.dat (eI s_x)), some (.dat (eI a11))] _
    obtain ⟨v12, hv12, h⟩ := bindS h
    refine x_aug (z := (eT eI) v12) rfl (e_tup (es_cons (e_con) (es_nil))) (aCatT (e := eI) hv12) ?_
    change X _ _ [some (.dat (eI c_zeros)), some (.dat (eI c_ones)), some (.dat ((eT eI) v12)), some (.dat (eI s_x)), some (.dat (eI a11))] _
    cases h
    exact x_nil ⟨.inl rfl, rfl⟩
theorem x_lower_word_l1_c {G : Sig} (c_check_steps : ∀ {p0 : Int} {p1 : Int} {r : Unit}, F_check_steps p0 p1 = some r → callV G "check_steps" [eI p0, eI p1] = .ok (Px.Slot.dat (eN r))) {c_zeros : Int} {c_ones : Int} {s_found : List Int} {s_x : Int} {s_y : Int}  {t : Bool} (h : F_lower_word_l1_c c_zeros c_ones s_found s_x s_y = some t) : evT G (.val (.ex (.prim (.cmp .NotEq) [.ex (.dsp true [.var 3, .var 4]), .ex (.dsp true [.var 0, .var 1])]))) [some (.dat (eI c_zeros)), some (.dat (eI c_ones)), some (.dat ((eT eI) s_found)), some (.dat (eI s_x)), some (.dat (eI s_y))] = .ok (t, [some (.dat (eI c_zeros)), some (.dat (eI c_ones)), some (.dat ((eT eI) s_found)), some (.dat (eI s_x)), some (.dat (eI s_y))]) := by
  unfold F_lower_word_l1_c at h
  obtain ⟨v5, hv5, h⟩ := bindS h
  cases h
  exact t_val (o_ex (e_prim (os_cons (o_ex (e_tup (es_cons (e_var rfl) (es_cons (e_var rfl) (es_nil))))) (os_cons (o_ex (e_tup (es_cons (e_var rfl) (es_cons (e_var rfl) (es_nil))))) os_nil)) rfl (pNeT (xs := [s_x, s_y]) (ys := [c_zeros, c_ones]) hv5))) rfl rfl
def F_lower_word (p_zeros : Int) (p_ones : Int) : Option (List Int) :=
  (F_check_steps p_zeros p_ones).bind fun v1 =>
  (some ([])).bind fun a2 =>
  (some ((0 : Int))).bind fun a3 =>
  (some ((0 : Int))).bind fun a4 =>
  (whileS (fun st => F_lower_word_l1_c p_zeros p_ones st.1 st.2.1 st.2.2) (fun st => F_lower_word_l1 p_zeros p_ones st.1 st.2.1 st.2.2) wlim (a2, a3, a4)).bind fun o14 =>
  match o14 with
  | .ret b => some b
  | .nx s15 =>
    some s15.1
theorem x_lower_word {G : Sig} (c_check_steps : ∀ {p0 : Int} {p1 : Int} {r : Unit}, F_check_steps p0 p1 = some r → callV G "check_steps" [eI p0, eI p1] = .ok (Px.Slot.dat (eN r))) {p_zeros : Int} {p_ones : Int} {r : List Int} (h : F_lower_word p_zeros p_ones = some r) : X G d_lower_word.body [some (.dat (eI p_zeros)), some (.dat (eI p_ones)), none, none, none] (fun fl _ => match fl with | .nx => Px.Slot.dat ((eT eI) r) = Px.Slot.dat .non | .ret s => Px.Slot.dat ((eT eI) r) = s | _ => False) := by
  rw [d_lower_word]
  unfold F_lower_word at h
  obtain ⟨v1, hv1, h⟩ := bindS h
  refine x_drop (e_call (ds := [eI p_zeros, eI p_ones]) (s := Px.Slot.dat (eN v1)) (os_cons (o_ex (e_var rfl)) (os_cons (o_ex (e_var rfl)) os_nil)) (c_check_steps hv1)) ?_
  change X _ _ [some (.dat (eI p_zeros)), some (.dat (eI p_ones)), none, none, none] _
  obtain ⟨a2, ha2, h⟩ := bindS h
  have ha2 := Option.some.inj ha2
  refine x_set (d := (eT eI) a2) (ev_eq (e_tup (es_nil)) (congrArg (eT eI) ha2)) ?_
  change X _ _ [some (.dat (eI p_zeros)), some (.dat (eI p_ones)), some (.dat ((eT eI) a2)), none, none] _
  obtain ⟨a3, ha3, h⟩ := bindS h
  have ha3 := Option.some.inj ha3
  obtain ⟨a4, ha4, h⟩ := bindS h
  have ha4 := Option.some.inj ha4
  refine x_upk (d := .tup [eI a3, eI a4]) (e_tup (es_cons (ev_eq (e_con) (congrArg eI ha3)) (es_cons (ev_eq (e_con) (congrArg eI ha4)) (es_nil)))) rfl ?_
  change X _ _ [some (.dat (eI p_zeros)), some (.dat (eI p_ones)), some (.dat ((eT eI) a2)), some (.dat (eI a3)), some (.dat (eI a4))] _
  obtain ⟨o14, ho14, h⟩ := bindS h
  refine x_whileK (fun (st : (List Int) × Int × Int) ρ' => ρ' = [some (.dat (eI p_zeros)), some (.dat (eI p_ones)), some (.dat ((eT eI) st.1)), some (.dat (eI st.2.1)), some (.dat (eI st.2.2))]) (fun (b : List Int) => Px.Slot.dat ((eT eI) b)) (fun st => F_lower_word_l1_c p_zeros p_ones st.1 st.2.1 st.2.2) (fun st => F_lower_word_l1 p_zeros p_ones st.1 st.2.1 st.2.2) rfl (fun st t ρ' hR hc => ?_) (fun st r ρ' hR hc hx => ?_) ho14 (fun s15 ρ' e hR => ?_) (fun b ρ' e => ?_)
  · obtain rfl := hR
    exact ⟨_, x_lower_word_l1_c c_check_steps (c_zeros := p_zeros) (c_ones := p_ones) (s_found := st.1) (s_x := st.2.1) (s_y := st.2.2) hc, rfl⟩
  · obtain rfl := hR
    exact x_lower_word_l1 c_check_steps (c_zeros := p_zeros) (c_ones := p_ones) (s_found := st.1) (s_x := st.2.1) (s_y := st.2.2) hx
  · subst e
    obtain rfl := hR
    change X _ _ [some (.dat (eI p_zeros)), some (.dat (eI p_ones)), some (.dat ((eT eI) s15.1)), some (.dat (eI s15.2.1)), some (.dat (eI s15.2.2))] _
    refine x_ret (d := Px.Slot.dat ((eT eI) s15.1)) (v_var rfl) ?_
    cases h
    exact rfl
  · subst e
    cases h
    exact rfl
theorem w_lower_word {k : Nat} {p_zeros : Int} {p_ones : Int} {r : List Int} (h : F_lower_word p_zeros p_ones = some r) : callV (sigOf defs (k + 3)) "lower_word" [eI p_zeros, eI p_ones] = .ok (Px.Slot.dat ((eT eI) r)) :=
  callV_run fnd_lower_word ⟨rfl, by decide⟩ (x_lower_word (fun h => w_check_steps (k := k + 0) h) h)
def F_tree_way_l1_c (c_zeros : Int) (c_ones : Int) (s_found : List Int) (s_low : List Int) (s_high : List Int) : Option Bool :=
  (atI s_low ((0 : Int))).bind fun v5 =>
  (atI s_high ((0 : Int))).bind fun v6 =>
  (atI s_low ((1 : Int))).bind fun v7 =>
  (atI s_high ((1 : Int))).bind fun v8 =>
  (eqT ([(v5 + v6), (v7 + v8)]) ([c_zeros, c_ones])).bind fun v9 =>
  some ((!v9))
def F_tree_way_l1 (c_zeros : Int) (c_ones : Int) (s_found : List Int) (s_low : List Int) (s_high : List Int) : Option (Fl ((List Int) × (List Int) × (List Int)) (List Int)) :=
  (atI s_low ((0 : Int))).bind fun v10 =>
  (atI s_high ((0 : Int))).bind fun v11 =>
  (atI s_low ((1 : Int))).bind fun v12 =>
  (atI s_high ((1 : Int))).bind fun v13 =>
  (some ([(v10 + v11), (v12 + v13)])).bind fun a14 =>
  (atI a14 ((0 : Int))).bind fun v15 =>
  (binI .Mult c_ones v15).bind fun v16 =>
  (atI a14 ((1 : Int))).bind fun v17 =>
  (binI .Mult v17 c_zeros).bind fun v18 =>
  if (decide (v16 < v18)) = true then
    (catZ s_found ([(0 : Int)])).bind fun v19 =>
    some (.nx ((v19, s_low, a14)))
  else
    (catZ s_found ([(1 : Int)])).bind fun v20 =>
    some (.nx ((v20, a14, s_high)))
theorem x_tree_way_l1 {G : Sig} (c_check_steps : ∀ {p0 : Int} {p1 : Int} {r : Unit}, F_check_steps p0 p1 = some r → callV G "check_steps" [eI p0, eI p1] = .ok (Px.Slot.dat (eN r))) {c_zeros : Int} {c_ones : Int} {s_found : List Int} {s_low : List Int} {s_high : List Int} {y5 : Option D} {r : Fl ((List Int) × (List Int) × (List Int)) (List Int)} (h : F_tree_way_l1 c_zeros c_ones s_found s_low s_high = some r) : X G [.set false 5 (.dsp true [.prim (.bin .Add) [.ex (.prim .ix [.slot 3, .ex (.con (.int 0))]), .ex (.prim .ix [.slot 4, .ex (.con (.int 0))])], .prim (.bin .Add) [.ex (.prim .ix [.slot 3, .ex (.con (.int 1))]), .ex (.prim .ix [.slot 4, .ex (.con (.int 1))])]]), .ite (.val (.ex (.prim (.cmp .Lt) [.ex (.prim (.bin .Mult) [.slot 1, .ex (.prim .ix [.slot 5, .ex (.con (.int 0))])]), .ex (.prim (.bin .Mult) [.ex (.prim .ix [.slot 5, .ex (.con (.int 1))]), .slot 0])]))) [
    .aug 2 .Add (.dsp true [.con (.int 0)]),
    .set false 4 (.var 5)] [
    .aug 2 .Add (.dsp true [.con (.int 1)]),
    .set false 3 (.var 5)]] [some (.dat (eI c_zeros)), some (.dat (eI c_ones)), some (.dat ((eT eI) s_found)), some (.dat ((eT eI) s_low)), some (.dat ((eT eI) s_high)), dO y5] (FlK (fun (s' : (List Int) × (List Int) × (List Int)) ρ'' => ∃ y5, ρ'' = [some (.dat (eI c_zeros)), some (.dat (eI c_ones)), some (.dat ((eT eI) s'.1)), some (.dat ((eT eI) s'.2.1)), some (.dat ((eT eI) s'.2.2)), dO y5]) (fun (b : List Int) => Px.Slot.dat ((eT eI) b)) r) := by
  unfold F_tree_way_l1 at h
  obtain ⟨v10, hv10, h⟩ := bindS h
  obtain ⟨v11, hv11, h⟩ := bindS h
  obtain ⟨v12, hv12, h⟩ := bindS h
  obtain ⟨v13, hv13, h⟩ := bindS h
  obtain ⟨a14, ha14, h⟩ := bindS h
  have ha14 := Option.some.inj ha14
  refine x_set (d := (eT eI) a14) (ev_eq (e_tup (es_cons (e_prim (os_cons (o_ex (e_prim (os_cons (o_slot rfl) (os_cons (o_ex (e_con)) os_nil)) rfl (pIxT (e := eI) hv10))) (os_cons (o_ex (e_prim (os_cons (o_slot rfl) (os_cons (o_ex (e_con)) os_nil)) rfl (pIxT (e := eI) hv11))) os_nil)) rfl (p_add)) (es_cons (e_prim (os_cons (o_ex (e_prim (os_cons (o_slot rfl) (os_cons (o_ex (e_con)) os_nil)) rfl (pIxT (e := eI) hv12))) (os_cons (o_ex (e_prim (os_cons (o_slot rfl) (os_cons (o_ex (e_con)) os_nil)) rfl (pIxT (e := eI) hv13))) os_nil)) rfl (p_add)) (es_nil)))) (congrArg (eT eI) ha14)) ?_
  change X _ _ [some (.dat (eI c_zeros)), some (.dat (eI c_ones)), some (.dat ((eT eI) s_found)), some (.dat ((eT eI) s_low)), some (.dat ((eT eI) s_high)), some (.dat ((eT eI) a14))] _
  obtain ⟨v15, hv15, h⟩ := bindS h
  obtain ⟨v16, hv16, h⟩ := bindS h
  obtain ⟨v17, hv17, h⟩ := bindS h
  obtain ⟨v18, hv18, h⟩ := bindS h
  refine x_ite (t_val (o_ex (e_prim (os_cons (o_ex (e_prim (os_cons (o_slot rfl) (os_cons (o_ex (e_prim (os_cons (o_slot rfl) (os_cons (o_ex (e_con)) os_nil)) rfl (pIxT (e := eI) hv15))) os_nil)) rfl (pI hv16))) (os_cons (o_ex (e_prim (os_cons (o_ex (e_prim (os_cons (o_slot rfl) (os_cons (o_ex (e_con)) os_nil)) rfl (pIxT (e := eI) hv17))) (os_cons (o_slot rfl) os_nil)) rfl (pI hv18))) os_nil)) rfl (p_lt))) rfl rfl) (fun hc21 => ?_) (fun hc21 => ?_)
  · rw [if_pos hc21] at h
    simp only [List.cons_append, List.nil_append]
    obtain ⟨v19, hv19, h⟩ := bindS h
    refine x_aug (z := (eT eI) v19) rfl (e_tup (es_cons (e_con) (es_nil))) (aCatT (e := eI) hv19) ?_
    change X _ _ [some (.dat (eI c_zeros)), some (.dat (eI c_ones)), some (.dat ((eT eI) v19)), some (.dat ((eT eI) s_low)), some (.dat ((eT eI) s_high)), some (.dat ((eT eI) a14))] _
    refine x_set (d := (eT eI) a14) (e_var rfl) ?_
    change X _ _ [some (.dat (eI c_zeros)), some (.dat (eI c_ones)), some (.dat ((eT eI) v19)), some (.dat ((eT eI) s_low)), some (.dat ((eT eI) a14)), some (.dat ((eT eI) a14))] _
    cases h
    exact x_nil ⟨.inl rfl, ⟨(some ((eT eI) a14)), rfl⟩⟩
  · rw [if_neg (by rw [hc21]; exact Bool.false_ne_true)] at h
    simp only [List.cons_append, List.nil_append]
    obtain ⟨v20, hv20, h⟩ := bindS h
    refine x_aug (z := (eT eI) v20) rfl (e_tup (es_cons (e_con) (es_nil))) (aCatT (e := eI) hv20) ?_
    change X _ _ [some (.dat (eI c_zeros)), some (.dat (eI c_ones)), some (.dat ((eT eI) v20)), some (.dat ((eT eI) s_low)), some (.dat ((eT eI) s_high)), some (.dat ((eT eI) a14))] _
    refine x_set (d := (eT eI) a14) (e_var rfl) ?_
    change X _ _ [some (.dat (eI c_zeros)), some (.dat (eI c_ones)), some (.dat ((eT eI) v20)), some (.dat ((eT eI) a14)), some (.dat ((eT eI) s_high)), some (.dat ((eT eI) a14))] _
    cases h
    exact x_nil ⟨.inl rfl, ⟨(some ((eT eI) a14)), rfl⟩⟩
theorem x_tree_way_l1_c {G : Sig} (c_check_steps : ∀ {p0 : Int} {p1 : Int} {r : Unit}, F_check_steps p0 p1 = some r → callV G "check_steps" [eI p0, eI p1] = .ok (Px.Slot.dat (eN r))) {c_zeros : Int} {c_ones : Int} {s_found : List Int} {s_low : List Int} {s_high : List Int} {y5 : Option D} {t : Bool} (h : F_tree_way_l1_c c_zeros c_ones s_found s_low s_high = some t) : evT G (.val (.ex (.prim (.cmp .NotEq) [.ex (.dsp true [.prim (.bin .Add) [.ex (.prim .ix [.slot 3, .ex (.con (.int 0))]), .ex (.prim .ix [.slot 4, .ex (.con (.int 0))])], .prim (.bin .Add) [.ex (.prim .ix [.slot 3, .ex (.con (.int 1))]), .ex (.prim .ix [.slot 4, .ex (.con (.int 1))])]]), .ex (.dsp true [.var 0, .var 1])]))) [some (.dat (eI c_zeros)), some (.dat (eI c_ones)), some (.dat ((eT eI) s_found)), some (.dat ((eT eI) s_low)), some (.dat ((eT eI) s_high)), dO y5] = .ok (t, [some (.dat (eI c_zeros)), some (.dat (eI c_ones)), some (.dat ((eT eI) s_found)), some (.dat ((eT eI) s_low)), some (.dat ((eT eI) s_high)), dO y5]) := by
  unfold F_tree_way_l1_c at h
  obtain ⟨v5, hv5, h⟩ := bindS h
  obtain ⟨v6, hv6, h⟩ := bindS h
  obtain ⟨v7, hv7, h⟩ := bindS h
  obtain ⟨v8, hv8, h⟩ := bindS h
  obtain ⟨v9, hv9, h⟩ := bindS h
  cases h
  exact t_val (o_ex (e_prim (os_cons (o_ex (e_tup (es_cons (e_prim (os_cons (o_ex (e_prim (os_cons (o_slot rfl) (os_cons (o_ex (e_con)) os_nil)) rfl (pIxT (e := eI) hv5))) (os_cons (o_ex (e_prim (os_cons (o_slot rfl) (os_cons (o_ex (e_con)) os_nil)) rfl (pIxT (e := eI) hv6))) os_nil)) rfl (p_add)) (es_cons (e_prim (os_cons (o_ex (e_prim (os_cons (o_slot rfl) (os_cons (o_ex (e_con)) os_nil)) rfl (pIxT (e := eI) hv7))) (os_cons (o_ex (e_prim (os_cons (o_slot rfl) (os_cons (o_ex (e_con)) os_nil)) rfl (pIxT (e := eI) hv8))) os_nil)) rfl (p_add)) (es_nil))))) (os_cons (o_ex (e_tup (es_cons (e_var rfl) (es_cons (e_var rfl) (es_nil))))) os_nil)) rfl (pNeT (xs := [(v5 + v6), (v7 + v8)]) (ys := [c_zeros, c_ones]) hv9))) rfl rfl
def F_tree_way (p_zeros : Int) (p_ones : Int) : Option (List Int) :=
  (F_check_steps p_zeros p_ones).bind fun v1 =>
  if ((decide (p_zeros < (1 : Int))) || (decide (p_ones < (1 : Int)))) = true then
    none
  else
    (some ([])).bind fun a2 =>
    (some ([(1 : Int), (0 : Int)])).bind fun a3 =>
    (some ([(0 : Int), (1 : Int)])).bind fun a4 =>
    (whileS (fun st => F_tree_way_l1_c p_zeros p_ones st.1 st.2.1 st.2.2) (fun st => F_tree_way_l1 p_zeros p_ones st.1 st.2.1 st.2.2) wlim (a2, a3, a4)).bind fun o22 =>
    match o22 with
    | .ret b => some b
    | .nx s23 =>
      some s23.1
theorem x_tree_way {G : Sig} (c_check_steps : ∀ {p0 : Int} {p1 : Int} {r : Unit}, F_check_steps p0 p1 = some r → callV G "check_steps" [eI p0, eI p1] = .ok (Px.Slot.dat (eN r))) {p_zeros : Int} {p_ones : Int} {r : List Int} (h : F_tree_way p_zeros p_ones = some r) : X G d_tree_way.body [some (.dat (eI p_zeros)), some (.dat (eI p_ones)), none, none, none, none] (fun fl _ => match fl with | .nx => Px.Slot.dat ((eT eI) r) = Px.Slot.dat .non | .ret s => Px.Slot.dat ((eT eI) r) = s | _ => False) := by
  rw [d_tree_way]
  unfold F_tree_way at h
  obtain ⟨v1, hv1, h⟩ := bindS h
  refine x_drop (e_call (ds := [eI p_zeros, eI p_ones]) (s := Px.Slot.dat (eN v1)) (os_cons (o_ex (e_var rfl)) (os_cons (o_ex (e_var rfl)) os_nil)) (c_check_steps hv1)) ?_
  change X _ _ [some (.dat (eI p_zeros)), some (.dat (eI p_ones)), none, none, none, none] _
  refine x_ite (t_bop (c_orT (t_val (o_ex (e_prim (os_cons (o_slot rfl) (os_cons (o_ex (e_con)) os_nil)) rfl (p_lt))) rfl rfl) (c_one (t_val (o_ex (e_prim (os_cons (o_slot rfl) (os_cons (o_ex (e_con)) os_nil)) rfl (p_lt))) rfl rfl)))) (fun hc24 => ?_) (fun hc24 => ?_)
  · rw [if_pos hc24] at h
    simp only [List.cons_append, List.nil_append]
    cases h
  · rw [if_neg (by rw [hc24]; exact Bool.false_ne_true)] at h
    simp only [List.cons_append, List.nil_append]
    obtain ⟨a2, ha2, h⟩ := bindS h
    have ha2 := Option.some.inj ha2
    refine x_set (d := (eT eI) a2) (ev_eq (e_tup (es_nil)) (congrArg (eT eI) ha2)) ?_
    change X _ _ [some (.dat (eI p_zeros)), some (.dat (eI p_ones)), some (.dat ((eT eI) a2)), none, none, none] _
    obtain ⟨a3, ha3, h⟩ := bindS h
    have ha3 := Option.some.inj ha3
    obtain ⟨a4, ha4, h⟩ := bindS h
    have ha4 := Option.some.inj ha4
    refine x_upk (d := .tup [(eT eI) a3, (eT eI) a4]) (e_tup (es_cons (ev_eq (e_tup (es_cons (e_con) (es_cons (e_con) (es_nil)))) (congrArg (eT eI) ha3)) (es_cons (ev_eq (e_tup (es_cons (e_con) (es_cons (e_con) (es_nil)))) (congrArg (eT eI) ha4)) (es_nil)))) rfl ?_
    change X _ _ [some (.dat (eI p_zeros)), some (.dat (eI p_ones)), some (.dat ((eT eI) a2)), some (.dat ((eT eI) a3)), some (.dat ((eT eI) a4)), none] _
    obtain ⟨o22, ho22, h⟩ := bindS h
    refine x_whileK (fun (st : (List Int) × (List Int) × (List Int)) ρ' => ∃ y5, ρ' = [some (.dat (eI p_zeros)), some (.dat (eI p_ones)), some (.dat ((eT eI) st.1)), some (.dat ((eT eI) st.2.1)), some (.dat ((eT eI) st.2.2)), dO y5]) (fun (b : List Int) => Px.Slot.dat ((eT eI) b)) (fun st => F_tree_way_l1_c p_zeros p_ones st.1 st.2.1 st.2.2) (fun st => F_tree_way_l1 p_zeros p_ones st.1 st.2.1 st.2.2) ⟨none, rfl⟩ (fun st t ρ' hR hc => ?_) (fun st r ρ' hR hc hx => ?_) ho22 (fun s23 ρ' e hR => ?_) (fun b ρ' e => ?_)
    · obtain ⟨y5, rfl⟩ := hR
      exact ⟨_, x_tree_way_l1_c c_check_steps (c_zeros := p_zeros) (c_ones := p_ones) (s_found := st.1) (s_low := st.2.1) (s_high := st.2.2) hc, ⟨y5, rfl⟩⟩
    · obtain ⟨y5, rfl⟩ := hR
      exact x_tree_way_l1 c_check_steps (c_zeros := p_zeros) (c_ones := p_ones) (s_found := st.1) (s_low := st.2.1) (s_high := st.2.2) hx
    · subst e
      obtain ⟨y5, rfl⟩ := hR
      change X _ _ [some (.dat (eI p_zeros)), some (.dat (eI p_ones)), some (.dat ((eT eI) s23.1)), some (.dat ((eT eI) s23.2.1)), some (.dat ((eT eI) s23.2.2)), dO y5] _
      refine x_ret (d := Px.Slot.dat ((eT eI) s23.1)) (v_var rfl) ?_
      cases h
      exact rfl
    · subst e
      cases h
      exact rfl
theorem w_tree_way {k : Nat} {p_zeros : Int} {p_ones : Int} {r : List Int} (h : F_tree_way p_zeros p_ones = some r) : callV (sigOf defs (k + 3)) "tree_way" [eI p_zeros, eI p_ones] = .ok (Px.Slot.dat ((eT eI) r)) :=
  callV_run fnd_tree_way ⟨rfl, by decide⟩ (x_tree_way (fun h => w_check_steps (k := k + 0) h) h)
def F_sign_counts (p_word : List Int) (p_signs : Int) : Option (List Int) :=
  (rngZ 0 p_signs).bind fun v1 =>
  ((compO (fun (x2 : Int) => (cntZ p_word x2).bind fun v3 => some (some v3)) v1).bind shortL).bind fun v4 =>
  some v4
theorem x_sign_counts {G : Sig}  {p_word : List Int} {p_signs : Int} {r : List Int} (h : F_sign_counts p_word p_signs = some r) : X G d_sign_counts.body [some (.dat ((eT eI) p_word)), some (.dat (eI p_signs)), none] (fun fl _ => match fl with | .nx => Px.Slot.dat ((eT eI) r) = Px.Slot.dat .non | .ret s => Px.Slot.dat ((eT eI) r) = s | _ => False) := by
  rw [d_sign_counts]
  unfold F_sign_counts at h
  obtain ⟨v1, hv1, h⟩ := bindS h
  obtain ⟨v4, hv4, h⟩ := bindS h
  refine x_ret (d := Px.Slot.dat ((eT eI) v4)) (v_prim (e_prim (os_cons (o_ex (e_comp (ex := eI) (ey := eI) [some (.dat ((eT eI) p_word)), some (.dat (eI p_signs)), none] _ (es_cons (e_var rfl) (es_nil)) (it_rng1 hv1) rfl rfl (fun x2 r h => by
      obtain ⟨v3, hv3, h⟩ := bindS h
      cases h
      exact ⟨_, _, _, rfl, c_nil, rfl, _, e_prim (os_cons (o_ex (e_var rfl)) (os_cons (o_slot rfl) os_nil)) rfl (pCntT hv3), same_rng, rfl⟩) hv4 rfl)) os_nil) rfl (pTupL (e := eI))) rfl) ?_
  cases h
  exact rfl
theorem w_sign_counts {k : Nat} {p_word : List Int} {p_signs : Int} {r : List Int} (h : F_sign_counts p_word p_signs = some r) : callV (sigOf defs (k + 1)) "sign_counts" [(eT eI) p_word, eI p_signs] = .ok (Px.Slot.dat ((eT eI) r)) :=
  callV_run fnd_sign_counts ⟨rfl, by decide⟩ (x_sign_counts  h)
def F_is_lower (p_word : List Int) : Option Bool :=
  (cntZ p_word ((0 : Int))).bind fun v1 =>
  (cntZ p_word ((1 : Int))).bind fun v2 =>
  (F_common_divisor v1 v2).bind fun v3 =>
  (if (decide (v3 = (1 : Int))) = true then (F_lower_word v1 v2).bind fun v4 => (eqT v4 p_word).bind fun v5 => some v5 else some false).bind fun v6 =>
  some v6
theorem x_is_lower {G : Sig} (c_common_divisor : ∀ {p0 : Int} {p1 : Int} {r : Int}, F_common_divisor p0 p1 = some r → callV G "common_divisor" [eI p0, eI p1] = .ok (Px.Slot.dat (eI r))) (c_lower_word : ∀ {p0 : Int} {p1 : Int} {r : List Int}, F_lower_word p0 p1 = some r → callV G "lower_word" [eI p0, eI p1] = .ok (Px.Slot.dat ((eT eI) r))) {p_word : List Int} {r : Bool} (h : F_is_lower p_word = some r) : X G d_is_lower.body [some (.dat ((eT eI) p_word)), none, none] (fun fl _ => match fl with | .nx => Px.Slot.dat (eB r) = Px.Slot.dat .non | .ret s => Px.Slot.dat (eB r) = s | _ => False) := by
  rw [d_is_lower]
  unfold F_is_lower at h
  obtain ⟨v1, hv1, h⟩ := bindS h
  obtain ⟨v2, hv2, h⟩ := bindS h
  refine x_par (d := eI v1) (c := eI v2) (e_prim (os_cons (o_ex (e_var rfl)) (os_cons (o_ex (e_con)) os_nil)) rfl (pCntT hv1)) (e_prim (os_cons (o_ex (e_var rfl)) (os_cons (o_ex (e_con)) os_nil)) rfl (pCntT hv2)) ?_
  change X _ _ [some (.dat ((eT eI) p_word)), some (.dat (eI v1)), some (.dat (eI v2))] _
  obtain ⟨v3, hv3, h⟩ := bindS h
  obtain ⟨v6, hv6, h⟩ := bindS h
  refine x_ret (d := Px.Slot.dat (eB v6)) (v_bop (e_bop (e_and (e_prim (os_cons (o_ex (e_call (ds := [eI v1, eI v2]) (s := Px.Slot.dat (eI v3)) (os_cons (o_ex (e_var rfl)) (os_cons (o_ex (e_var rfl)) os_nil)) (c_common_divisor hv3))) (os_cons (o_ex (e_con)) os_nil)) rfl (p_eq)) (fun w h => by
      obtain ⟨v4, hv4, h⟩ := bindS h
      obtain ⟨v5, hv5, h⟩ := bindS h
      cases h
      exact e_bop1 (e_prim (os_cons (o_ex (e_call (ds := [eI v1, eI v2]) (s := Px.Slot.dat ((eT eI) v4)) (os_cons (o_ex (e_var rfl)) (os_cons (o_ex (e_var rfl)) os_nil)) (c_lower_word hv4))) (os_cons (o_slot rfl) os_nil)) rfl (pEqT (xs := v4) (ys := p_word) hv5))) hv6))) ?_
  cases h
  exact rfl
theorem w_is_lower {k : Nat} {p_word : List Int} {r : Bool} (h : F_is_lower p_word = some r) : callV (sigOf defs (k + 4)) "is_lower" [(eT eI) p_word] = .ok (Px.Slot.dat (eB r)) :=
  callV_run fnd_is_lower ⟨rfl, by decide⟩ (x_is_lower (fun h => w_common_divisor (k := k + 2) h) (fun h => w_lower_word (k := k + 0) h) h)
def F_sign_table (p_sub : (List (List Int))) : Option (List (List Int)) :=
  (some (((p_sub.length : Nat) : Int))).bind fun a1 =>
  (rngZ 0 a1).bind fun v2 =>
  ((compO (fun (x3 : Int) => (rngZ 0 a1).bind fun v4 => ((compO (fun (x5 : Int) => (atI p_sub x5).bind fun v6 => (cntZ v6 x3).bind fun v7 => some (some v7)) v4).bind shortL).bind fun v8 => some (some v8)) v2).bind shortL).bind fun v9 =>
  some v9
theorem x_sign_table {G : Sig}  {p_sub : (List (List Int))} {r : List (List Int)} (h : F_sign_table p_sub = some r) : X G d_sign_table.body [some (.dat (eK_Substitution p_sub)), none, none, none] (fun fl _ => match fl with | .nx => Px.Slot.dat ((eT (eT eI)) r) = Px.Slot.dat .non | .ret s => Px.Slot.dat ((eT (eT eI)) r) = s | _ => False) := by
  rw [d_sign_table]
  unfold F_sign_table at h
  obtain ⟨a1, ha1, h⟩ := bindS h
  have ha1 := Option.some.inj ha1
  refine x_set (d := eI a1) (ev_eq (e_prim (os_cons (o_ex (e_prim (os_cons (o_slot rfl) os_nil) rfl (f_Substitution_words))) os_nil) rfl (pLenT (e := (eT eI)))) (congrArg eI ha1)) ?_
  change X _ _ [some (.dat (eK_Substitution p_sub)), some (.dat (eI a1)), none, none] _
  obtain ⟨v2, hv2, h⟩ := bindS h
  obtain ⟨v9, hv9, h⟩ := bindS h
  refine x_ret (d := Px.Slot.dat ((eT (eT eI)) v9)) (v_prim (e_prim (os_cons (o_ex (e_comp (ex := eI) (ey := (eT eI)) [some (.dat (eK_Substitution p_sub)), some (.dat (eI a1)), none, none] _ (es_cons (e_var rfl) (es_nil)) (it_rng1 hv2) rfl rfl (fun x3 r h => by
      obtain ⟨v4, hv4, h⟩ := bindS h
      obtain ⟨v8, hv8, h⟩ := bindS h
      cases h
      exact ⟨_, _, _, rfl, c_nil, rfl, _, e_prim (os_cons (o_ex (e_comp (ex := eI) (ey := eI) [some (.dat (eK_Substitution p_sub)), some (.dat (eI a1)), some (.dat (eI x3)), none] _ (es_cons (e_var rfl) (es_nil)) (it_rng1 hv4) rfl rfl (fun x5 r h => by
      obtain ⟨v6, hv6, h⟩ := bindS h
      obtain ⟨v7, hv7, h⟩ := bindS h
      cases h
      exact ⟨_, _, _, rfl, c_nil, rfl, _, e_prim (os_cons (o_ex (e_prim (os_cons (o_ex (e_prim (os_cons (o_slot rfl) os_nil) rfl (f_Substitution_words))) (os_cons (o_slot rfl) os_nil)) rfl (pIxT (e := (eT eI)) hv6))) (os_cons (o_slot rfl) os_nil)) rfl (pCntT hv7), same_rng, rfl⟩) hv8 rfl)) os_nil) rfl (pTupL (e := eI)), same_rng, rfl⟩) hv9 rfl)) os_nil) rfl (pTupL (e := (eT eI)))) rfl) ?_
  cases h
  exact rfl
theorem w_sign_table {k : Nat} {p_sub : (List (List Int))} {r : List (List Int)} (h : F_sign_table p_sub = some r) : callV (sigOf defs (k + 1)) "sign_table" [eK_Substitution p_sub] = .ok (Px.Slot.dat ((eT (eT eI)) r)) :=
  callV_run fnd_sign_table ⟨rfl, by decide⟩ (x_sign_table  h)
def F_is_even_ring_l1 (c_word : List Int) (c_longer : List Int) (x_1 : Int) : Option (Fl Unit Bool) :=
  (rngZ 0 (((c_word.length : Nat) : Int))).bind fun v3 =>
  ((compO (fun (x4 : Int) =>  some (some (((cutZ c_longer (some x4) (some ((x4 + x_1))))).sum))) v3).bind shortL).bind fun v5 =>
  (maxL v5).bind fun v6 =>
  (minL v5).bind fun v7 =>
  if (decide ((1 : Int) < (v6 - v7))) = true then
    some (.ret false)
  else
    some (.nx (()))
theorem x_is_even_ring_l1 {G : Sig}  {c_word : List Int} {c_longer : List Int} {x_1 : Int} {y3 : Option D} {y4 : Option D} {r : Fl Unit Bool} (h : F_is_even_ring_l1 c_word c_longer x_1 = some r) : X G [.set false 3 (.comp [4] (false, [4]) .rng [.prim (.bi .len) [.slot 0]] [] (.prim (.bi .sum) [.ex (.prim (.sl true true) [.slot 1, .ex (.var 4), .ex (.prim (.bin .Add) [.slot 4, .slot 2])])])), .ite (.val (.ex (.prim (.cmp .Gt) [.ex (.prim (.bin .Sub) [.ex (.prim (.bi .max) [.slot 3]), .ex (.prim (.bi .min) [.slot 3])]), .ex (.con (.int 1))]))) [
    .ret (.con (.bl false))] []] [some (.dat ((eT eI) c_word)), some (.dat ((eT eI) c_longer)), some (.dat (eI x_1)), dO y3, dO y4] (FlK (fun (s' : Unit) ρ'' => ∃ y2, ∃ y3, ∃ y4, ρ'' = [some (.dat ((eT eI) c_word)), some (.dat ((eT eI) c_longer)), dO y2, dO y3, dO y4]) (fun (b : Bool) => Px.Slot.dat (eB b)) r) := by
  unfold F_is_even_ring_l1 at h
  obtain ⟨v3, hv3, h⟩ := bindS h
  obtain ⟨v5, hv5, h⟩ := bindS h
  refine x_set (d := (eL eI) v5) (e_comp (ex := eI) (ey := eI) [some (.dat ((eT eI) c_word)), some (.dat ((eT eI) c_longer)), some (.dat (eI x_1)), dO y3, none] _ (es_cons (e_prim (os_cons (o_slot rfl) os_nil) rfl (pLenT (e := eI))) (es_nil)) (it_rng1 hv3) (by cases y4 <;> rfl) rfl (fun x4 r h => by
      cases h
      exact ⟨_, _, _, rfl, c_nil, rfl, _, e_prim (os_cons (o_ex (e_prim (os_cons (o_slot rfl) (os_cons (o_ex (e_var rfl)) (os_cons (o_ex (e_prim (os_cons (o_slot rfl) (os_cons (o_slot rfl) os_nil)) rfl (p_add))) os_nil))) rfl (pSl3T (e := eI)))) os_nil) rfl (pSumT), same_rng, rfl⟩) hv5 rfl) ?_
  change X _ _ [some (.dat ((eT eI) c_word)), some (.dat ((eT eI) c_longer)), some (.dat (eI x_1)), some (.dat ((eL eI) v5)), dO y4] _
  obtain ⟨v6, hv6, h⟩ := bindS h
  obtain ⟨v7, hv7, h⟩ := bindS h
  refine x_ite (t_val (o_ex (e_prim (os_cons (o_ex (e_prim (os_cons (o_ex (e_prim (os_cons (o_slot rfl) os_nil) rfl (pMaxL hv6))) (os_cons (o_ex (e_prim (os_cons (o_slot rfl) os_nil) rfl (pMinL hv7))) os_nil)) rfl (p_sub))) (os_cons (o_ex (e_con)) os_nil)) rfl (p_gt))) rfl rfl) (fun hc8 => ?_) (fun hc8 => ?_)
  · rw [if_pos hc8] at h
    simp only [List.cons_append, List.nil_append]
    refine x_ret (d := Px.Slot.dat (eB false)) (v_con) ?_
    cases h
    exact rfl
  · rw [if_neg (by rw [hc8]; exact Bool.false_ne_true)] at h
    simp only [List.cons_append, List.nil_append]
    cases h
    exact x_nil ⟨.inl rfl, ⟨(some (eI x_1)), (some ((eL eI) v5)), y4, rfl⟩⟩
def F_is_even_ring (p_word : List Int) : Option Bool :=
  (catZ p_word p_word).bind fun v1 =>
  (rngZ ((1 : Int)) (((p_word.length : Nat) : Int))).bind fun v2 =>
  (forS (fun x_1 st => F_is_even_ring_l1 p_word v1 x_1 ) v2 ()).bind fun o9 =>
  match o9 with
  | .ret b => some b
  | .nx s10 =>
    some true
theorem x_is_even_ring {G : Sig}  {p_word : List Int} {r : Bool} (h : F_is_even_ring p_word = some r) : X G d_is_even_ring.body [some (.dat ((eT eI) p_word)), none, none, none, none] (fun fl _ => match fl with | .nx => Px.Slot.dat (eB r) = Px.Slot.dat .non | .ret s => Px.Slot.dat (eB r) = s | _ => False) := by
  rw [d_is_even_ring]
  unfold F_is_even_ring at h
  obtain ⟨v1, hv1, h⟩ := bindS h
  refine x_set (d := (eT eI) v1) (e_prim (os_cons (o_slot rfl) (os_cons (o_slot rfl) os_nil)) rfl (pCatT (e := eI) hv1)) ?_
  change X _ _ [some (.dat ((eT eI) p_word)), some (.dat ((eT eI) v1)), none, none, none] _
  obtain ⟨v2, hv2, h⟩ := bindS h
  obtain ⟨o9, ho9, h⟩ := bindS h
  refine x_forK (ex := eI) (fun (st : Unit) ρ' => ∃ y2, ∃ y3, ∃ y4, ρ' = [some (.dat ((eT eI) p_word)), some (.dat ((eT eI) v1)), dO y2, dO y3, dO y4]) (fun (b : Bool) => Px.Slot.dat (eB b)) (fun x_1 st => F_is_even_ring_l1 p_word v1 x_1 ) (es_cons (e_con) (es_cons (e_prim (os_cons (o_slot rfl) os_nil) rfl (pLenT (e := eI))) (es_nil))) (it_rng2 hv2) (by decide) ⟨none, none, none, rfl⟩ (fun x_1 st r ρ' hR hx => ?_) ho9 (fun s10 ρ' e hR => ?_) (fun b ρ' e => ?_)
  · obtain ⟨y2, y3, y4, rfl⟩ := hR
    refine ⟨_, rfl, ?_⟩
    exact x_mono (fun fl ρ'' hk => ⟨same_rng, hk⟩) (x_is_even_ring_l1  (c_word := p_word) (c_longer := v1) (x_1 := x_1)  hx)
  · subst e
    obtain ⟨y2, y3, y4, rfl⟩ := hR
    change X _ _ [some (.dat ((eT eI) p_word)), some (.dat ((eT eI) v1)), dO y2, dO y3, dO y4] _
    refine x_ret (d := Px.Slot.dat (eB true)) (v_con) ?_
    cases h
    exact rfl
  · subst e
    cases h
    exact rfl
theorem w_is_even_ring {k : Nat} {p_word : List Int} {r : Bool} (h : F_is_even_ring p_word = some r) : callV (sigOf defs (k + 1)) "is_even_ring" [(eT eI) p_word] = .ok (Px.Slot.dat (eB r)) :=
  callV_run fnd_is_even_ring ⟨rfl, by decide⟩ (x_is_even_ring  h)
def F_turned (p_word : List Int) (p_many : Int) : Option (List Int) :=
  if (decide (((p_word.length : Nat) : Int) = (0 : Int))) = true then
    some ([])
  else
    (binI .Mod p_many (((p_word.length : Nat) : Int))).bind fun v1 =>
    (catZ ((cutZ p_word (some v1) none)) ((cutZ p_word none (some v1)))).bind fun v2 =>
    some v2
theorem x_turned {G : Sig}  {p_word : List Int} {p_many : Int} {r : List Int} (h : F_turned p_word p_many = some r) : X G d_turned.body [some (.dat ((eT eI) p_word)), some (.dat (eI p_many)), none] (fun fl _ => match fl with | .nx => Px.Slot.dat ((eT eI) r) = Px.Slot.dat .non | .ret s => Px.Slot.dat ((eT eI) r) = s | _ => False) := by
  rw [d_turned]
  unfold F_turned at h
  refine x_ite (t_val (o_ex (e_prim (os_cons (o_ex (e_prim (os_cons (o_slot rfl) os_nil) rfl (pLenT (e := eI)))) (os_cons (o_ex (e_con)) os_nil)) rfl (p_eq))) rfl rfl) (fun hc3 => ?_) (fun hc3 => ?_)
  · rw [if_pos hc3] at h
    simp only [List.cons_append, List.nil_append]
    refine x_ret (d := Px.Slot.dat ((eT eI) ([]))) (v_tup (e_tup (es_nil))) ?_
    cases h
    exact rfl
  · rw [if_neg (by rw [hc3]; exact Bool.false_ne_true)] at h
    simp only [List.cons_append, List.nil_append]
    obtain ⟨v1, hv1, h⟩ := bindS h
    refine x_set (d := eI v1) (e_prim (os_cons (o_ex (e_prim (os_cons (o_slot rfl) os_nil) rfl (pInt))) (os_cons (o_ex (e_prim (os_cons (o_slot rfl) os_nil) rfl (pLenT (e := eI)))) os_nil)) rfl (pI hv1)) ?_
    change X _ _ [some (.dat ((eT eI) p_word)), some (.dat (eI p_many)), some (.dat (eI v1))] _
    obtain ⟨v2, hv2, h⟩ := bindS h
    refine x_ret (d := Px.Slot.dat ((eT eI) v2)) (v_prim (e_prim (os_cons (o_ex (e_prim (os_cons (o_slot rfl) (os_cons (o_ex (e_var rfl)) os_nil)) rfl (pSl1T (e := eI)))) (os_cons (o_ex (e_prim (os_cons (o_slot rfl) (os_cons (o_ex (e_var rfl)) os_nil)) rfl (pSl2T (e := eI)))) os_nil)) rfl (pCatT (e := eI) hv2)) rfl) ?_
    cases h
    exact rfl
theorem w_turned {k : Nat} {p_word : List Int} {p_many : Int} {r : List Int} (h : F_turned p_word p_many = some r) : callV (sigOf defs (k + 1)) "turned" [(eT eI) p_word, eI p_many] = .ok (Px.Slot.dat ((eT eI) r)) :=
  callV_run fnd_turned ⟨rfl, by decide⟩ (x_turned  h)
def F_least_period_l1 (c_word : List Int) (x_1 : Int) : Option (Fl Unit Int) :=
  (binI .Mod (((c_word.length : Nat) : Int)) x_1).bind fun v2 =>
  (if (decide (v2 = (0 : Int))) = true then (F_turned c_word x_1).bind fun v3 => (eqT v3 c_word).bind fun v4 => some v4 else some false).bind fun v5 =>
  if v5 = true then
    some (.ret x_1)
  else
    some (.nx (()))
theorem x_least_period_l1 {G : Sig} (c_turned : ∀ {p0 : List Int} {p1 : Int} {r : List Int}, F_turned p0 p1 = some r → callV G "turned" [(eT eI) p0, eI p1] = .ok (Px.Slot.dat ((eT eI) r))) {c_word : List Int} {x_1 : Int}  {r : Fl Unit Int} (h : F_least_period_l1 c_word x_1 = some r) : X G [.ite (.bop true [.val (.ex (.prim (.cmp .Eq) [.ex (.prim (.bin .Mod) [.ex (.prim (.bi .int) [.ex (.prim (.bi .len) [.slot 0])]), .slot 1]), .ex (.con (.int 0))])), .val (.ex (.prim (.cmp .Eq) [.ex (.call "turned" [.ex (.var 0), .ex (.var 1)]), .slot 0]))]) [
    .ret (.var 1)] []] [some (.dat ((eT eI) c_word)), some (.dat (eI x_1))] (FlK (fun (s' : Unit) ρ'' => ∃ y1, ρ'' = [some (.dat ((eT eI) c_word)), dO y1]) (fun (b : Int) => Px.Slot.dat (eI b)) r) := by
  unfold F_least_period_l1 at h
  obtain ⟨v2, hv2, h⟩ := bindS h
  obtain ⟨v5, hv5, h⟩ := bindS h
  refine x_ite (t_bop (c_and (t_val (o_ex (e_prim (os_cons (o_ex (e_prim (os_cons (o_ex (e_prim (os_cons (o_ex (e_prim (os_cons (o_slot rfl) os_nil) rfl (pLenT (e := eI)))) os_nil) rfl (pInt))) (os_cons (o_slot rfl) os_nil)) rfl (pI hv2))) (os_cons (o_ex (e_con)) os_nil)) rfl (p_eq))) rfl rfl) (fun w h => by
      obtain ⟨v3, hv3, h⟩ := bindS h
      obtain ⟨v4, hv4, h⟩ := bindS h
      cases h
      exact c_one (t_val (o_ex (e_prim (os_cons (o_ex (e_call (ds := [(eT eI) c_word, eI x_1]) (s := Px.Slot.dat ((eT eI) v3)) (os_cons (o_ex (e_var rfl)) (os_cons (o_ex (e_var rfl)) os_nil)) (c_turned hv3))) (os_cons (o_slot rfl) os_nil)) rfl (pEqT (xs := v3) (ys := c_word) hv4))) rfl rfl)) hv5)) (fun hc6 => ?_) (fun hc6 => ?_)
  · rw [if_pos hc6] at h
    simp only [List.cons_append, List.nil_append]
    refine x_ret (d := Px.Slot.dat (eI x_1)) (v_var rfl) ?_
    cases h
    exact rfl
  · rw [if_neg (by rw [hc6]; exact Bool.false_ne_true)] at h
    simp only [List.cons_append, List.nil_append]
    cases h
    exact x_nil ⟨.inl rfl, ⟨(some (eI x_1)), rfl⟩⟩
def F_least_period (p_word : List Int) : Option Int :=
  (rngZ ((1 : Int)) ((((p_word.length : Nat) : Int) + (1 : Int)))).bind fun v1 =>
  (forS (fun x_1 st => F_least_period_l1 p_word x_1 ) v1 ()).bind fun o7 =>
  match o7 with
  | .ret b => some b
  | .nx s8 =>
    some ((0 : Int))
theorem x_least_period {G : Sig} (c_turned : ∀ {p0 : List Int} {p1 : Int} {r : List Int}, F_turned p0 p1 = some r → callV G "turned" [(eT eI) p0, eI p1] = .ok (Px.Slot.dat ((eT eI) r))) {p_word : List Int} {r : Int} (h : F_least_period p_word = some r) : X G d_least_period.body [some (.dat ((eT eI) p_word)), none] (fun fl _ => match fl with | .nx => Px.Slot.dat (eI r) = Px.Slot.dat .non | .ret s => Px.Slot.dat (eI r) = s | _ => False) := by
  rw [d_least_period]
  unfold F_least_period at h
  obtain ⟨v1, hv1, h⟩ := bindS h
  obtain ⟨o7, ho7, h⟩ := bindS h
  refine x_forK (ex := eI) (fun (st : Unit) ρ' => ∃ y1, ρ' = [some (.dat ((eT eI) p_word)), dO y1]) (fun (b : Int) => Px.Slot.dat (eI b)) (fun x_1 st => F_least_period_l1 p_word x_1 ) (es_cons (e_con) (es_cons (e_prim (os_cons (o_ex (e_prim (os_cons (o_slot rfl) os_nil) rfl (pLenT (e := eI)))) (os_cons (o_ex (e_con)) os_nil)) rfl (p_add)) (es_nil))) (it_rng2 hv1) (by decide) ⟨none, rfl⟩ (fun x_1 st r ρ' hR hx => ?_) ho7 (fun s8 ρ' e hR => ?_) (fun b ρ' e => ?_)
  · obtain ⟨y1, rfl⟩ := hR
    refine ⟨_, rfl, ?_⟩
    exact x_mono (fun fl ρ'' hk => ⟨same_rng, hk⟩) (x_least_period_l1 c_turned (c_word := p_word) (x_1 := x_1)  hx)
  · subst e
    obtain ⟨y1, rfl⟩ := hR
    change X _ _ [some (.dat ((eT eI) p_word)), dO y1] _
    refine x_ret (d := Px.Slot.dat (eI ((0 : Int)))) (v_con) ?_
    cases h
    exact rfl
  · subst e
    cases h
    exact rfl
theorem w_least_period {k : Nat} {p_word : List Int} {r : Int} (h : F_least_period p_word = some r) : callV (sigOf defs (k + 2)) "least_period" [(eT eI) p_word] = .ok (Px.Slot.dat (eI r)) :=
  callV_run fnd_least_period ⟨rfl, by decide⟩ (x_least_period (fun h => w_turned (k := k + 0) h) h)
def F_root_of (p_word : List Int) : Option (List Int) :=
  (F_least_period p_word).bind fun v1 =>
  some ((cutZ p_word none (some v1)))
theorem x_root_of {G : Sig} (c_least_period : ∀ {p0 : List Int} {r : Int}, F_least_period p0 = some r → callV G "least_period" [(eT eI) p0] = .ok (Px.Slot.dat (eI r))) {p_word : List Int} {r : List Int} (h : F_root_of p_word = some r) : X G d_root_of.body [some (.dat ((eT eI) p_word))] (fun fl _ => match fl with | .nx => Px.Slot.dat ((eT eI) r) = Px.Slot.dat .non | .ret s => Px.Slot.dat ((eT eI) r) = s | _ => False) := by
  rw [d_root_of]
  unfold F_root_of at h
  obtain ⟨v1, hv1, h⟩ := bindS h
  refine x_ret (d := Px.Slot.dat ((eT eI) ((cutZ p_word none (some v1))))) (v_prim (e_prim (os_cons (o_slot rfl) (os_cons (o_ex (e_call (ds := [(eT eI) p_word]) (s := Px.Slot.dat (eI v1)) (os_cons (o_ex (e_var rfl)) os_nil) (c_least_period hv1))) os_nil)) rfl (pSl2T (e := eI))) rfl) ?_
  cases h
  exact rfl
theorem w_root_of {k : Nat} {p_word : List Int} {r : List Int} (h : F_root_of p_word = some r) : callV (sigOf defs (k + 3)) "root_of" [(eT eI) p_word] = .ok (Px.Slot.dat ((eT eI) r)) :=
  callV_run fnd_root_of ⟨rfl, by decide⟩ (x_root_of (fun h => w_least_period (k := k + 0) h) h)
def F_told_slope (p_word : List Int) : Option (Option (List Int)) :=
  (eqT p_word ([])).bind fun v1 =>
  (if v1 = true then some true else (F_is_word p_word ((2 : Int))).bind fun v2 => (if (!v2) = true then some true else (F_is_even_ring p_word).bind fun v3 => some ((!v3))).bind fun v4 => some v4).bind fun v5 =>
  if v5 = true then
    some ((none : Option (List Int)))
  else
    (F_root_of p_word).bind fun v6 =>
    (cntZ v6 ((0 : Int))).bind fun v7 =>
    (cntZ v6 ((1 : Int))).bind fun v8 =>
    some ((some ([v7, v8])))
theorem x_told_slope {G : Sig} (c_is_word : ∀ {p0 : List Int} {p1 : Int} {r : Bool}, F_is_word p0 p1 = some r → callV G "is_word" [(eT eI) p0, eI p1] = .ok (Px.Slot.dat (eB r))) (c_is_even_ring : ∀ {p0 : List Int} {r : Bool}, F_is_even_ring p0 = some r → callV G "is_even_ring" [(eT eI) p0] = .ok (Px.Slot.dat (eB r))) (c_root_of : ∀ {p0 : List Int} {r : List Int}, F_root_of p0 = some r → callV G "root_of" [(eT eI) p0] = .ok (Px.Slot.dat ((eT eI) r))) {p_word : List Int} {r : Option (List Int)} (h : F_told_slope p_word = some r) : X G d_told_slope.body [some (.dat ((eT eI) p_word)), none] (fun fl _ => match fl with | .nx => Px.Slot.dat ((eO (eT eI)) r) = Px.Slot.dat .non | .ret s => Px.Slot.dat ((eO (eT eI)) r) = s | _ => False) := by
  rw [d_told_slope]
  unfold F_told_slope at h
  obtain ⟨v1, hv1, h⟩ := bindS h
  obtain ⟨v5, hv5, h⟩ := bindS h
  refine x_ite (t_bop (c_or (t_val (o_ex (e_prim (os_cons (o_slot rfl) (os_cons (o_ex (e_tup (es_nil))) os_nil)) rfl (pEqT (xs := p_word) (ys := []) hv1))) rfl rfl) (fun w h => by
      obtain ⟨v2, hv2, h⟩ := bindS h
      obtain ⟨v4, hv4, h⟩ := bindS h
      cases h
      exact c_or (t_not (t_val (o_ex (e_call (ds := [(eT eI) p_word, eI ((2 : Int))]) (s := Px.Slot.dat (eB v2)) (os_cons (o_ex (e_var rfl)) (os_cons (o_ex (e_con)) os_nil)) (c_is_word hv2))) rfl rfl)) (fun w h => by
      obtain ⟨v3, hv3, h⟩ := bindS h
      cases h
      exact c_one (t_not (t_val (o_ex (e_call (ds := [(eT eI) p_word]) (s := Px.Slot.dat (eB v3)) (os_cons (o_ex (e_var rfl)) os_nil) (c_is_even_ring hv3))) rfl rfl))) hv4) hv5)) (fun hc9 => ?_) (fun hc9 => ?_)
  · rw [if_pos hc9] at h
    simp only [List.cons_append, List.nil_append]
    refine x_ret (d := Px.Slot.dat ((eO (eT eI)) ((none : Option (List Int))))) (v_con) ?_
    cases h
    exact rfl
  · rw [if_neg (by rw [hc9]; exact Bool.false_ne_true)] at h
    simp only [List.cons_append, List.nil_append]
    obtain ⟨v6, hv6, h⟩ := bindS h
    refine x_set (d := (eT eI) v6) (e_call (ds := [(eT eI) p_word]) (s := Px.Slot.dat ((eT eI) v6)) (os_cons (o_ex (e_var rfl)) os_nil) (c_root_of hv6)) ?_
    change X _ _ [some (.dat ((eT eI) p_word)), some (.dat ((eT eI) v6))] _
    obtain ⟨v7, hv7, h⟩ := bindS h
    obtain ⟨v8, hv8, h⟩ := bindS h
    refine x_ret (d := Px.Slot.dat ((eO (eT eI)) ((some ([v7, v8]))))) (v_tup (e_tup (es_cons (e_prim (os_cons (o_ex (e_var rfl)) (os_cons (o_ex (e_con)) os_nil)) rfl (pCntT hv7)) (es_cons (e_prim (os_cons (o_ex (e_var rfl)) (os_cons (o_ex (e_con)) os_nil)) rfl (pCntT hv8)) (es_nil))))) ?_
    cases h
    exact rfl
theorem w_told_slope {k : Nat} {p_word : List Int} {r : Option (List Int)} (h : F_told_slope p_word = some r) : callV (sigOf defs (k + 4)) "told_slope" [(eT eI) p_word] = .ok (Px.Slot.dat ((eO (eT eI)) r)) :=
  callV_run fnd_told_slope ⟨rfl, by decide⟩ (x_told_slope (fun h => w_is_word (k := k + 1) h) (fun h => w_is_even_ring (k := k + 2) h) (fun h => w_root_of (k := k + 0) h) h)
def F_middle_word (p_zeros : Int) (p_ones : Int) : Option (List Int) :=
  if ((decide (p_zeros < (1 : Int))) || (decide (p_ones < (1 : Int)))) = true then
    none
  else
    (F_lower_word p_zeros p_ones).bind fun v1 =>
    some ((cutZ v1 (some ((1 : Int))) (some ((-((1 : Int)))))))
theorem x_middle_word {G : Sig} (c_lower_word : ∀ {p0 : Int} {p1 : Int} {r : List Int}, F_lower_word p0 p1 = some r → callV G "lower_word" [eI p0, eI p1] = .ok (Px.Slot.dat ((eT eI) r))) {p_zeros : Int} {p_ones : Int} {r : List Int} (h : F_middle_word p_zeros p_ones = some r) : X G d_middle_word.body [some (.dat (eI p_zeros)), some (.dat (eI p_ones))] (fun fl _ => match fl with | .nx => Px.Slot.dat ((eT eI) r) = Px.Slot.dat .non | .ret s => Px.Slot.dat ((eT eI) r) = s | _ => False) := by
  rw [d_middle_word]
  unfold F_middle_word at h
  refine x_ite (t_bop (c_orT (t_val (o_ex (e_prim (os_cons (o_slot rfl) (os_cons (o_ex (e_con)) os_nil)) rfl (p_lt))) rfl rfl) (c_one (t_val (o_ex (e_prim (os_cons (o_slot rfl) (os_cons (o_ex (e_con)) os_nil)) rfl (p_lt))) rfl rfl)))) (fun hc2 => ?_) (fun hc2 => ?_)
  · rw [if_pos hc2] at h
    simp only [List.cons_append, List.nil_append]
    cases h
  · rw [if_neg (by rw [hc2]; exact Bool.false_ne_true)] at h
    simp only [List.cons_append, List.nil_append]
    obtain ⟨v1, hv1, h⟩ := bindS h
    refine x_ret (d := Px.Slot.dat ((eT eI) ((cutZ v1 (some ((1 : Int))) (some ((-((1 : Int))))))))) (v_prim (e_prim (os_cons (o_ex (e_call (ds := [eI p_zeros, eI p_ones]) (s := Px.Slot.dat ((eT eI) v1)) (os_cons (o_ex (e_var rfl)) (os_cons (o_ex (e_var rfl)) os_nil)) (c_lower_word hv1))) (os_cons (o_ex (e_con)) (os_cons (o_ex (e_prim (os_cons (o_ex (e_con)) os_nil) rfl (pNeg))) os_nil))) rfl (pSl3T (e := eI))) rfl) ?_
    cases h
    exact rfl
theorem w_middle_word {k : Nat} {p_zeros : Int} {p_ones : Int} {r : List Int} (h : F_middle_word p_zeros p_ones = some r) : callV (sigOf defs (k + 4)) "middle_word" [eI p_zeros, eI p_ones] = .ok (Px.Slot.dat ((eT eI) r)) :=
  callV_run fnd_middle_word ⟨rfl, by decide⟩ (x_middle_word (fun h => w_lower_word (k := k + 0) h) h)
def F_Substitution_put_often_l1 (c_self : (List (List Int))) (c_many : Int) (x_1 : Int) (s_word : List Int) : Option (Fl ((List Int)) (List Int)) :=
  (F_Substitution_put c_self s_word).bind fun v2 =>
  some (.nx v2)
theorem x_Substitution_put_often_l1 {G : Sig} (c_Substitution_put : ∀ {p0 : (List (List Int))} {p1 : List Int} {r : List Int}, F_Substitution_put p0 p1 = some r → methR G (eK_Substitution p0) "put" [(eT eI) p1] = .ok (Px.Slot.dat ((eT eI) r))) {c_self : (List (List Int))} {c_many : Int} {x_1 : Int} {s_word : List Int}  {r : Fl ((List Int)) (List Int)} (h : F_Substitution_put_often_l1 c_self c_many x_1 s_word = some r) : X G [.set false 1 (.meth (.var 0) "put" [.var 1])] [some (.dat (eK_Substitution c_self)), some (.dat ((eT eI) s_word)), some (.dat (eI c_many)), some (.dat (eI x_1))] (FlK (fun (s' : (List Int)) ρ'' => ∃ y3, ρ'' = [some (.dat (eK_Substitution c_self)), some (.dat ((eT eI) s')), some (.dat (eI c_many)), dO y3]) (fun (b : List Int) => Px.Slot.dat ((eT eI) b)) r) := by
  unfold F_Substitution_put_often_l1 at h
  obtain ⟨v2, hv2, h⟩ := bindS h
  refine x_set (d := (eT eI) v2) (e_meth (s := Px.Slot.dat ((eT eI) v2)) (e_var rfl) (es_cons (e_var rfl) (es_nil)) (c_Substitution_put hv2)) ?_
  change X _ _ [some (.dat (eK_Substitution c_self)), some (.dat ((eT eI) v2)), some (.dat (eI c_many)), some (.dat (eI x_1))] _
  cases h
  exact x_nil ⟨.inl rfl, ⟨(some (eI x_1)), rfl⟩⟩
def F_Substitution_put_often (p_self : (List (List Int))) (p_word : List Int) (p_many : Int) : Option (List Int) :=
  (rngZ 0 p_many).bind fun v1 =>
  (forS (fun x_1 st => F_Substitution_put_often_l1 p_self p_many x_1 st) v1 p_word).bind fun o3 =>
  match o3 with
  | .ret b => some b
  | .nx s4 =>
    some s4
theorem x_Substitution_put_often {G : Sig} (c_Substitution_put : ∀ {p0 : (List (List Int))} {p1 : List Int} {r : List Int}, F_Substitution_put p0 p1 = some r → methR G (eK_Substitution p0) "put" [(eT eI) p1] = .ok (Px.Slot.dat ((eT eI) r))) {p_self : (List (List Int))} {p_word : List Int} {p_many : Int} {r : List Int} (h : F_Substitution_put_often p_self p_word p_many = some r) : X G d_Substitution_put_often.body [some (.dat (eK_Substitution p_self)), some (.dat ((eT eI) p_word)), some (.dat (eI p_many)), none] (fun fl _ => match fl with | .nx => Px.Slot.dat ((eT eI) r) = Px.Slot.dat .non | .ret s => Px.Slot.dat ((eT eI) r) = s | _ => False) := by
  rw [d_Substitution_put_often]
  unfold F_Substitution_put_often at h
  obtain ⟨v1, hv1, h⟩ := bindS h
  obtain ⟨o3, ho3, h⟩ := bindS h
  refine x_forK (ex := eI) (fun (st : (List Int)) ρ' => ∃ y3, ρ' = [some (.dat (eK_Substitution p_self)), some (.dat ((eT eI) st)), some (.dat (eI p_many)), dO y3]) (fun (b : List Int) => Px.Slot.dat ((eT eI) b)) (fun x_1 st => F_Substitution_put_often_l1 p_self p_many x_1 st) (es_cons (e_var rfl) (es_nil)) (it_rng1 hv1) (by decide) ⟨none, rfl⟩ (fun x_1 st r ρ' hR hx => ?_) ho3 (fun s4 ρ' e hR => ?_) (fun b ρ' e => ?_)
  · obtain ⟨y3, rfl⟩ := hR
    refine ⟨_, rfl, ?_⟩
    exact x_mono (fun fl ρ'' hk => ⟨same_rng, hk⟩) (x_Substitution_put_often_l1 c_Substitution_put (c_self := p_self) (c_many := p_many) (x_1 := x_1) (s_word := st) hx)
  · subst e
    obtain ⟨y3, rfl⟩ := hR
    change X _ _ [some (.dat (eK_Substitution p_self)), some (.dat ((eT eI) s4)), some (.dat (eI p_many)), dO y3] _
    refine x_ret (d := Px.Slot.dat ((eT eI) s4)) (v_var rfl) ?_
    cases h
    exact rfl
  · subst e
    cases h
    exact rfl
theorem w_Substitution_put_often {k : Nat} {p_self : (List (List Int))} {p_word : List Int} {p_many : Int} {r : List Int} (h : F_Substitution_put_often p_self p_word p_many = some r) : methR (sigOf defs (k + 2)) (eK_Substitution p_self) "put_often" [(eT eI) p_word, eI p_many] = .ok (Px.Slot.dat ((eT eI) r)) :=
  methR_run fnd_Substitution_put_often ⟨by decide, by decide⟩ rfl ⟨rfl, by decide⟩ (x_Substitution_put_often (fun h => w_Substitution_put (k := k + 0) h) h)
def F_fixed_beginning_l1_c (c_sub : (List (List Int))) (c_sign : Int) (c_many : Int) (c_length : Int) (s_word : List Int) : Option Bool :=
  some ((decide (((s_word.length : Nat) : Int) < c_length)))
def F_fixed_beginning_l1 (c_sub : (List (List Int))) (c_sign : Int) (c_many : Int) (c_length : Int) (s_word : List Int) : Option (Fl ((List Int)) (List Int)) :=
  (F_Substitution_put_often c_sub s_word c_many).bind fun v2 =>
  some (.nx v2)
theorem x_fixed_beginning_l1 {G : Sig} (c_Substitution_put_often : ∀ {p0 : (List (List Int))} {p1 : List Int} {p2 : Int} {r : List Int}, F_Substitution_put_often p0 p1 p2 = some r → methR G (eK_Substitution p0) "put_often" [(eT eI) p1, eI p2] = .ok (Px.Slot.dat ((eT eI) r))) {c_sub : (List (List Int))} {c_sign : Int} {c_many : Int} {c_length : Int} {s_word : List Int}  {r : Fl ((List Int)) (List Int)} (h : F_fixed_beginning_l1 c_sub c_sign c_many c_length s_word = some r) : X G [.set false 4 (.meth (.var 0) "put_often" [.var 4, .var 2])] [some (.dat (eK_Substitution c_sub)), some (.dat (eI c_sign)), some (.dat (eI c_many)), some (.dat (eI c_length)), some (.dat ((eT eI) s_word))] (FlK (fun (s' : (List Int)) ρ'' => ρ'' = [some (.dat (eK_Substitution c_sub)), some (.dat (eI c_sign)), some (.dat (eI c_many)), some (.dat (eI c_length)), some (.dat ((eT eI) s'))]) (fun (b : List Int) => Px.Slot.dat ((eT eI) b)) r) := by
  unfold F_fixed_beginning_l1 at h
  obtain ⟨v2, hv2, h⟩ := bindS h
  refine x_set (d := (eT eI) v2) (e_meth (s := Px.Slot.dat ((eT eI) v2)) (e_var rfl) (es_cons (e_var rfl) (es_cons (e_var rfl) (es_nil))) (c_Substitution_put_often hv2)) ?_
  change X _ _ [some (.dat (eK_Substitution c_sub)), some (.dat (eI c_sign)), some (.dat (eI c_many)), some (.dat (eI c_length)), some (.dat ((eT eI) v2))] _
  cases h
  exact x_nil ⟨.inl rfl, rfl⟩
theorem x_fixed_beginning_l1_c {G : Sig} (c_Substitution_put_often : ∀ {p0 : (List (List Int))} {p1 : List Int} {p2 : Int} {r : List Int}, F_Substitution_put_often p0 p1 p2 = some r → methR G (eK_Substitution p0) "put_often" [(eT eI) p1, eI p2] = .ok (Px.Slot.dat ((eT eI) r))) {c_sub : (List (List Int))} {c_sign : Int} {c_many : Int} {c_length : Int} {s_word : List Int}  {t : Bool} (h : F_fixed_beginning_l1_c c_sub c_sign c_many c_length s_word = some t) : evT G (.val (.ex (.prim (.cmp .Lt) [.ex (.prim (.bi .len) [.slot 4]), .slot 3]))) [some (.dat (eK_Substitution c_sub)), some (.dat (eI c_sign)), some (.dat (eI c_many)), some (.dat (eI c_length)), some (.dat ((eT eI) s_word))] = .ok (t, [some (.dat (eK_Substitution c_sub)), some (.dat (eI c_sign)), some (.dat (eI c_many)), some (.dat (eI c_length)), some (.dat ((eT eI) s_word))]) := by
  unfold F_fixed_beginning_l1_c at h
  cases h
  exact t_val (o_ex (e_prim (os_cons (o_ex (e_prim (os_cons (o_slot rfl) os_nil) rfl (pLenT (e := eI)))) (os_cons (o_slot rfl) os_nil)) rfl (p_lt))) rfl rfl
def F_fixed_beginning (p_sub : (List (List Int))) (p_sign : Int) (p_many : Int) (p_length : Int) : Option (List Int) :=
  (some ([p_sign])).bind fun a1 =>
  (whileS (fun st => F_fixed_beginning_l1_c p_sub p_sign p_many p_length st) (fun st => F_fixed_beginning_l1 p_sub p_sign p_many p_length st) wlim a1).bind fun o3 =>
  match o3 with
  | .ret b => some b
  | .nx s4 =>
    some ((cutZ s4 none (some p_length)))
theorem x_fixed_beginning {G : Sig} (c_Substitution_put_often : ∀ {p0 : (List (List Int))} {p1 : List Int} {p2 : Int} {r : List Int}, F_Substitution_put_often p0 p1 p2 = some r → methR G (eK_Substitution p0) "put_often" [(eT eI) p1, eI p2] = .ok (Px.Slot.dat ((eT eI) r))) {p_sub : (List (List Int))} {p_sign : Int} {p_many : Int} {p_length : Int} {r : List Int} (h : F_fixed_beginning p_sub p_sign p_many p_length = some r) : X G d_fixed_beginning.body [some (.dat (eK_Substitution p_sub)), some (.dat (eI p_sign)), some (.dat (eI p_many)), some (.dat (eI p_length)), none] (fun fl _ => match fl with | .nx => Px.Slot.dat ((eT eI) r) = Px.Slot.dat .non | .ret s => Px.Slot.dat ((eT eI) r) = s | _ => False) := by
  rw [d_fixed_beginning]
  unfold F_fixed_beginning at h
  obtain ⟨a1, ha1, h⟩ := bindS h
  have ha1 := Option.some.inj ha1
  refine x_set (d := (eT eI) a1) (ev_eq (e_tup (es_cons (e_var rfl) (es_nil))) (congrArg (eT eI) ha1)) ?_
  change X _ _ [some (.dat (eK_Substitution p_sub)), some (.dat (eI p_sign)), some (.dat (eI p_many)), some (.dat (eI p_length)), some (.dat ((eT eI) a1))] _
  obtain ⟨o3, ho3, h⟩ := bindS h
  refine x_whileK (fun (st : (List Int)) ρ' => ρ' = [some (.dat (eK_Substitution p_sub)), some (.dat (eI p_sign)), some (.dat (eI p_many)), some (.dat (eI p_length)), some (.dat ((eT eI) st))]) (fun (b : List Int) => Px.Slot.dat ((eT eI) b)) (fun st => F_fixed_beginning_l1_c p_sub p_sign p_many p_length st) (fun st => F_fixed_beginning_l1 p_sub p_sign p_many p_length st) rfl (fun st t ρ' hR hc => ?_) (fun st r ρ' hR hc hx => ?_) ho3 (fun s4 ρ' e hR => ?_) (fun b ρ' e => ?_)
  · obtain rfl := hR
    exact ⟨_, x_fixed_beginning_l1_c c_Substitution_put_often (c_sub := p_sub) (c_sign := p_sign) (c_many := p_many) (c_length := p_length) (s_word := st) hc, rfl⟩
  · obtain rfl := hR
    exact x_fixed_beginning_l1 c_Substitution_put_often (c_sub := p_sub) (c_sign := p_sign) (c_many := p_many) (c_length := p_length) (s_word := st) hx
  · subst e
    obtain rfl := hR
    change X _ _ [some (.dat (eK_Substitution p_sub)), some (.dat (eI p_sign)), some (.dat (eI p_many)), some (.dat (eI p_length)), some (.dat ((eT eI) s4))] _
    refine x_ret (d := Px.Slot.dat ((eT eI) ((cutZ s4 none (some p_length))))) (v_prim (e_prim (os_cons (o_slot rfl) (os_cons (o_ex (e_var rfl)) os_nil)) rfl (pSl2T (e := eI))) rfl) ?_
    cases h
    exact rfl
  · subst e
    cases h
    exact rfl
theorem w_fixed_beginning {k : Nat} {p_sub : (List (List Int))} {p_sign : Int} {p_many : Int} {p_length : Int} {r : List Int} (h : F_fixed_beginning p_sub p_sign p_many p_length = some r) : callV (sigOf defs (k + 3)) "fixed_beginning" [eK_Substitution p_sub, eI p_sign, eI p_many, eI p_length] = .ok (Px.Slot.dat ((eT eI) r)) :=
  callV_run fnd_fixed_beginning ⟨rfl, by decide⟩ (x_fixed_beginning (fun h => w_Substitution_put_often (k := k + 0) h) h)
def F_times_table_l1 (c_first : List (List Int)) (c_second : List (List Int)) (c_wide : Int) (x_1 : List Int) (s_found : List (List Int)) : Option (Fl ((List (List Int))) (List (List Int))) :=
  (rngZ 0 c_wide).bind fun v4 =>
  ((compO (fun (x5 : Int) => (rngZ 0 (((x_1.length : Nat) : Int))).bind fun v6 => ((compO (fun (x7 : Int) => (atI x_1 x7).bind fun v8 => (atI c_second x7).bind fun v9 => (atI v9 x5).bind fun v10 => (binI .Mult v8 v10).bind fun v11 => some (some v11)) v6).bind shortL).bind fun v12 => some (some v12.sum)) v4).bind shortL).bind fun v13 =>
  (appZ s_found v13).bind fun v14 =>
  some (.nx v14)
theorem x_times_table_l1 {G : Sig}  {c_first : List (List Int)} {c_second : List (List Int)} {c_wide : Int} {x_1 : List Int} {s_found : List (List Int)} {y5 : Option D} {y6 : Option D} {r : Fl ((List (List Int))) (List (List Int))} (h : F_times_table_l1 c_first c_second c_wide x_1 s_found = some r) : X G [.app 3 (.prim (.bi .tuple) [.ex (.comp [5] (false, [5]) .rng [.var 2] [] (.prim (.bi .sum) [.ex (.comp [6] (false, [6]) .rng [.prim (.bi .len) [.slot 4]] [] (.prim (.bin .Mult) [.ex (.prim .ix [.slot 4, .slot 6]), .ex (.prim .ix [.ex (.prim .ix [.slot 1, .slot 6]), .slot 5])]))]))])] [some (.dat ((eT (eT eI)) c_first)), some (.dat ((eT (eT eI)) c_second)), some (.dat (eI c_wide)), some (.own (s_found.map (eT eI))), some (.dat ((eT eI) x_1)), dO y5, dO y6] (FlK (fun (s' : (List (List Int))) ρ'' => ∃ y4, ∃ y5, ∃ y6, ρ'' = [some (.dat ((eT (eT eI)) c_first)), some (.dat ((eT (eT eI)) c_second)), some (.dat (eI c_wide)), some (.own (s'.map (eT eI))), dO y4, dO y5, dO y6]) (fun (b : List (List Int)) => Px.Slot.dat ((eT (eT eI)) b)) r) := by
  unfold F_times_table_l1 at h
  obtain ⟨v4, hv4, h⟩ := bindS h
  obtain ⟨v13, hv13, h⟩ := bindS h
  obtain ⟨v14, hv14, h⟩ := bindS h
  refine x_app rfl (e_prim (os_cons (o_ex (e_comp (ex := eI) (ey := eI) [some (.dat ((eT (eT eI)) c_first)), some (.dat ((eT (eT eI)) c_second)), some (.dat (eI c_wide)), some (.own (s_found.map (eT eI))), some (.dat ((eT eI) x_1)), none, dO y6] _ (es_cons (e_var rfl) (es_nil)) (it_rng1 hv4) (by cases y5 <;> rfl) rfl (fun x5 r h => by
      obtain ⟨v6, hv6, h⟩ := bindS h
      obtain ⟨v12, hv12, h⟩ := bindS h
      cases h
      exact ⟨_, _, _, rfl, c_nil, rfl, _, e_prim (os_cons (o_ex (e_comp (ex := eI) (ey := eI) [some (.dat ((eT (eT eI)) c_first)), some (.dat ((eT (eT eI)) c_second)), some (.dat (eI c_wide)), some (.own (s_found.map (eT eI))), some (.dat ((eT eI) x_1)), some (.dat (eI x5)), none] _ (es_cons (e_prim (os_cons (o_slot rfl) os_nil) rfl (pLenT (e := eI))) (es_nil)) (it_rng1 hv6) (by cases y6 <;> rfl) rfl (fun x7 r h => by
      obtain ⟨v8, hv8, h⟩ := bindS h
      obtain ⟨v9, hv9, h⟩ := bindS h
      obtain ⟨v10, hv10, h⟩ := bindS h
      obtain ⟨v11, hv11, h⟩ := bindS h
      cases h
      exact ⟨_, _, _, rfl, c_nil, rfl, _, e_prim (os_cons (o_ex (e_prim (os_cons (o_slot rfl) (os_cons (o_slot rfl) os_nil)) rfl (pIxT (e := eI) hv8))) (os_cons (o_ex (e_prim (os_cons (o_ex (e_prim (os_cons (o_slot rfl) (os_cons (o_slot rfl) os_nil)) rfl (pIxT (e := (eT eI)) hv9))) (os_cons (o_slot rfl) os_nil)) rfl (pIxT (e := eI) hv10))) os_nil)) rfl (pI hv11), same_rng, rfl⟩) hv12 rfl)) os_nil) rfl (pSumL), same_rng, rfl⟩) hv13 rfl)) os_nil) rfl (pTupL (e := eI))) rfl (appZ_len (e := (eT eI)) hv14) ?_
  rw [← appZ_ok (e := (eT eI)) hv14]
  change X _ _ [some (.dat ((eT (eT eI)) c_first)), some (.dat ((eT (eT eI)) c_second)), some (.dat (eI c_wide)), some (.own (v14.map (eT eI))), some (.dat ((eT eI) x_1)), dO y5, dO y6] _
  cases h
  exact x_nil ⟨.inl rfl, ⟨(some ((eT eI) x_1)), y5, y6, rfl⟩⟩
def F_times_table (p_first : List (List Int)) (p_second : List (List Int)) : Option (List (List Int)) :=
  (if (decide ((0 : Int) < ((p_second.length : Nat) : Int))) = true then (atI p_second ((0 : Int))).bind fun v1 => some (((v1.length : Nat) : Int)) else  some ((0 : Int))).bind fun v2 =>
  (some ([])).bind fun a3 =>
  (forS (fun x_1 st => F_times_table_l1 p_first p_second v2 x_1 st) p_first a3).bind fun o15 =>
  match o15 with
  | .ret b => some b
  | .nx s16 =>
    some s16
theorem x_times_table {G : Sig}  {p_first : List (List Int)} {p_second : List (List Int)} {r : List (List Int)} (h : F_times_table p_first p_second = some r) : X G d_times_table.body [some (.dat ((eT (eT eI)) p_first)), some (.dat ((eT (eT eI)) p_second)), none, none, none, none, none] (fun fl _ => match fl with | .nx => Px.Slot.dat ((eT (eT eI)) r) = Px.Slot.dat .non | .ret s => Px.Slot.dat ((eT (eT eI)) r) = s | _ => False) := by
  rw [d_times_table]
  unfold F_times_table at h
  obtain ⟨v2, hv2, h⟩ := bindS h
  refine x_set (d := eI v2) (e_ite (t_val (o_ex (e_prim (os_cons (o_ex (e_prim (os_cons (o_slot rfl) os_nil) rfl (pLenT (e := (eT eI))))) (os_cons (o_ex (e_con)) os_nil)) rfl (p_gt))) rfl rfl) (fun ht => by
      rw [if_pos ht] at hv2
      have h := hv2
      obtain ⟨v1, hv1, h⟩ := bindS h
      cases h
      exact e_prim (os_cons (o_ex (e_prim (os_cons (o_slot rfl) (os_cons (o_ex (e_con)) os_nil)) rfl (pIxT (e := (eT eI)) hv1))) os_nil) rfl (pLenT (e := eI))) (fun ht => by
      rw [if_neg (by rw [ht]; exact Bool.false_ne_true)] at hv2
      have h := hv2
      cases h
      exact e_con)) ?_
  change X _ _ [some (.dat ((eT (eT eI)) p_first)), some (.dat ((eT (eT eI)) p_second)), some (.dat (eI v2)), none, none, none, none] _
  obtain ⟨a3, ha3, h⟩ := bindS h
  have ha3 := Option.some.inj ha3
  refine x_seto (d := .own (a3.map (eT eI))) (evo_eq (v_lst (e_lst (es_nil))) (congrArg (fun z => Px.Slot.own (z.map (eT eI))) ha3)) ?_
  change X _ _ [some (.dat ((eT (eT eI)) p_first)), some (.dat ((eT (eT eI)) p_second)), some (.dat (eI v2)), some (.own (a3.map (eT eI))), none, none, none] _
  obtain ⟨o15, ho15, h⟩ := bindS h
  refine x_forK (ex := (eT eI)) (fun (st : (List (List Int))) ρ' => ∃ y4, ∃ y5, ∃ y6, ρ' = [some (.dat ((eT (eT eI)) p_first)), some (.dat ((eT (eT eI)) p_second)), some (.dat (eI v2)), some (.own (st.map (eT eI))), dO y4, dO y5, dO y6]) (fun (b : List (List Int)) => Px.Slot.dat ((eT (eT eI)) b)) (fun x_1 st => F_times_table_l1 p_first p_second v2 x_1 st) (es_cons (e_var rfl) es_nil) (it_tup) (by decide) ⟨none, none, none, rfl⟩ (fun x_1 st r ρ' hR hx => ?_) ho15 (fun s16 ρ' e hR => ?_) (fun b ρ' e => ?_)
  · obtain ⟨y4, y5, y6, rfl⟩ := hR
    refine ⟨_, rfl, ?_⟩
    exact x_mono (fun fl ρ'' hk => ⟨same_seq, hk⟩) (x_times_table_l1  (c_first := p_first) (c_second := p_second) (c_wide := v2) (x_1 := x_1) (s_found := st) hx)
  · subst e
    obtain ⟨y4, y5, y6, rfl⟩ := hR
    change X _ _ [some (.dat ((eT (eT eI)) p_first)), some (.dat ((eT (eT eI)) p_second)), some (.dat (eI v2)), some (.own (s16.map (eT eI))), dO y4, dO y5, dO y6] _
    refine x_ret (d := Px.Slot.dat ((eT (eT eI)) s16)) (v_prim (e_prim (os_cons (o_slot rfl) os_nil) rfl (pTupL (e := (eT eI)))) rfl) ?_
    cases h
    exact rfl
  · subst e
    cases h
    exact rfl
theorem w_times_table {k : Nat} {p_first : List (List Int)} {p_second : List (List Int)} {r : List (List Int)} (h : F_times_table p_first p_second = some r) : callV (sigOf defs (k + 1)) "times_table" [(eT (eT eI)) p_first, (eT (eT eI)) p_second] = .ok (Px.Slot.dat ((eT (eT eI)) r)) :=
  callV_run fnd_times_table ⟨rfl, by decide⟩ (x_times_table  h)
def F_is_primitive_l1 (c_sub : (List (List Int))) (c_now : List (List Int)) (x_1 : Int) (s_here : List (List Int)) : Option (Fl ((List (List Int))) Bool) :=
  ((compF (fun (x8 : List Int) =>  compO (fun (x9 : Int) =>  some (some ((decide ((0 : Int) < x9))))) x8) s_here).bind shortL).bind fun v10 =>
  if (v10.all id) = true then
    some (.ret true)
  else
    (F_times_table s_here c_now).bind fun v11 =>
    ((compO (fun (x12 : List Int) => ((compO (fun (x13 : Int) =>  some (some ((if (decide ((0 : Int) < x13)) = true then 1 else 0 : Int)))) x12).bind shortL).bind fun v14 => some (some v14)) v11).bind shortL).bind fun v15 =>
    some (.nx v15)
theorem x_is_primitive_l1 {G : Sig} (c_sign_table : ∀ {p0 : (List (List Int))} {r : List (List Int)}, F_sign_table p0 = some r → callV G "sign_table" [eK_Substitution p0] = .ok (Px.Slot.dat ((eT (eT eI)) r))) (c_times_table : ∀ {p0 : List (List Int)} {p1 : List (List Int)} {r : List (List Int)}, F_times_table p0 p1 = some r → callV G "times_table" [(eT (eT eI)) p0, (eT (eT eI)) p1] = .ok (Px.Slot.dat ((eT (eT eI)) r))) {c_sub : (List (List Int))} {c_now : List (List Int)} {x_1 : Int} {s_here : List (List Int)} {y4 : Option D} {y5 : Option D} {r : Fl ((List (List Int))) Bool} (h : F_is_primitive_l1 c_sub c_now x_1 s_here = some r) : X G [.ite (.val (.ex (.prim (.bi .all) [.ex (.comp2 [4, 5] (false, [4]) .seq [.var 2] [] [5] (false, [5]) .seq [.var 4] [] (.prim (.cmp .Gt) [.slot 5, .ex (.con (.int 0))]))]))) [
    .ret (.con (.bl true))] [], .set false 2 (.prim (.bi .tuple) [.ex (.comp [4] (false, [4]) .seq [.call "times_table" [.ex (.var 2), .ex (.var 1)]] [] (.prim (.bi .tuple) [.ex (.comp [5] (false, [5]) .seq [.var 4] [] (.prim (.bi .int) [.ex (.prim (.cmp .Gt) [.slot 5, .ex (.con (.int 0))])]))]))])] [some (.dat (eK_Substitution c_sub)), some (.dat ((eT (eT eI)) c_now)), some (.dat ((eT (eT eI)) s_here)), some (.dat (eI x_1)), dO y4, dO y5] (FlK (fun (s' : (List (List Int))) ρ'' => ∃ y3, ∃ y4, ∃ y5, ρ'' = [some (.dat (eK_Substitution c_sub)), some (.dat ((eT (eT eI)) c_now)), some (.dat ((eT (eT eI)) s')), dO y3, dO y4, dO y5]) (fun (b : Bool) => Px.Slot.dat (eB b)) r) := by
  unfold F_is_primitive_l1 at h
  obtain ⟨v10, hv10, h⟩ := bindS h
  refine x_ite (t_val (o_ex (e_prim (os_cons (o_ex (e_comp2 (ex := (eT eI)) (ez := eI) (ey := eB) [some (.dat (eK_Substitution c_sub)), some (.dat ((eT (eT eI)) c_now)), some (.dat ((eT (eT eI)) s_here)), some (.dat (eI x_1)), none, none] _ (es_cons (e_var rfl) es_nil) (it_tup) (by cases y4 <;> cases y5 <;> rfl) rfl rfl rfl (fun x8 r h => by
      exact ⟨_, _, _, rfl, c_nil, .inr ⟨rfl, _, _, _, x8, _, es_cons (e_var rfl) es_nil, it_tup, rfl, rfl, h, (fun x9 o h => by
        cases h
        exact ⟨_, _, _, rfl, c_nil, rfl, _, e_prim (os_cons (o_slot rfl) (os_cons (o_ex (e_con)) os_nil)) rfl (p_gt), rfl⟩
        )⟩⟩) hv10 rfl)) os_nil) rfl (pAll))) rfl rfl) (fun hc16 => ?_) (fun hc16 => ?_)
  · rw [if_pos hc16] at h
    simp only [List.cons_append, List.nil_append]
    refine x_ret (d := Px.Slot.dat (eB true)) (v_con) ?_
    cases h
    exact rfl
  · rw [if_neg (by rw [hc16]; exact Bool.false_ne_true)] at h
    simp only [List.cons_append, List.nil_append]
    obtain ⟨v11, hv11, h⟩ := bindS h
    obtain ⟨v15, hv15, h⟩ := bindS h
    refine x_set (d := (eT (eT eI)) v15) (e_prim (os_cons (o_ex (e_comp (ex := (eT eI)) (ey := (eT eI)) [some (.dat (eK_Substitution c_sub)), some (.dat ((eT (eT eI)) c_now)), some (.dat ((eT (eT eI)) s_here)), some (.dat (eI x_1)), none, dO y5] _ (es_cons (e_call (ds := [(eT (eT eI)) s_here, (eT (eT eI)) c_now]) (s := Px.Slot.dat ((eT (eT eI)) v11)) (os_cons (o_ex (e_var rfl)) (os_cons (o_ex (e_var rfl)) os_nil)) (c_times_table hv11)) es_nil) (it_tup) (by cases y4 <;> rfl) rfl (fun x12 r h => by
      obtain ⟨v14, hv14, h⟩ := bindS h
      cases h
      exact ⟨_, _, _, rfl, c_nil, rfl, _, e_prim (os_cons (o_ex (e_comp (ex := eI) (ey := eI) [some (.dat (eK_Substitution c_sub)), some (.dat ((eT (eT eI)) c_now)), some (.dat ((eT (eT eI)) s_here)), some (.dat (eI x_1)), some (.dat ((eT eI) x12)), none] _ (es_cons (e_var rfl) es_nil) (it_tup) (by cases y5 <;> rfl) rfl (fun x13 r h => by
      cases h
      exact ⟨_, _, _, rfl, c_nil, rfl, _, e_prim (os_cons (o_ex (e_prim (os_cons (o_slot rfl) (os_cons (o_ex (e_con)) os_nil)) rfl (p_gt))) os_nil) rfl (pIntB), same_seq, rfl⟩) hv14 rfl)) os_nil) rfl (pTupL (e := eI)), same_seq, rfl⟩) hv15 rfl)) os_nil) rfl (pTupL (e := (eT eI)))) ?_
    change X _ _ [some (.dat (eK_Substitution c_sub)), some (.dat ((eT (eT eI)) c_now)), some (.dat ((eT (eT eI)) v15)), some (.dat (eI x_1)), dO y4, dO y5] _
    cases h
    exact x_nil ⟨.inl rfl, ⟨(some (eI x_1)), y4, y5, rfl⟩⟩
def F_is_primitive (p_sub : (List (List Int))) : Option Bool :=
  (F_sign_table p_sub).bind fun v1 =>
  ((compO (fun (x2 : List Int) => ((compO (fun (x3 : Int) =>  some (some ((if (decide ((0 : Int) < x3)) = true then 1 else 0 : Int)))) x2).bind shortL).bind fun v4 => some (some v4)) v1).bind shortL).bind fun v5 =>
  (binI .Mult (((v5.length : Nat) : Int)) (((v5.length : Nat) : Int))).bind fun v6 =>
  (rngZ 0 v6).bind fun v7 =>
  (forS (fun x_1 st => F_is_primitive_l1 p_sub v5 x_1 st) v7 v5).bind fun o17 =>
  match o17 with
  | .ret b => some b
  | .nx s18 =>
    some false
theorem x_is_primitive {G : Sig} (c_sign_table : ∀ {p0 : (List (List Int))} {r : List (List Int)}, F_sign_table p0 = some r → callV G "sign_table" [eK_Substitution p0] = .ok (Px.Slot.dat ((eT (eT eI)) r))) (c_times_table : ∀ {p0 : List (List Int)} {p1 : List (List Int)} {r : List (List Int)}, F_times_table p0 p1 = some r → callV G "times_table" [(eT (eT eI)) p0, (eT (eT eI)) p1] = .ok (Px.Slot.dat ((eT (eT eI)) r))) {p_sub : (List (List Int))} {r : Bool} (h : F_is_primitive p_sub = some r) : X G d_is_primitive.body [some (.dat (eK_Substitution p_sub)), none, none, none, none, none] (fun fl _ => match fl with | .nx => Px.Slot.dat (eB r) = Px.Slot.dat .non | .ret s => Px.Slot.dat (eB r) = s | _ => False) := by
  rw [d_is_primitive]
  unfold F_is_primitive at h
  obtain ⟨v1, hv1, h⟩ := bindS h
  obtain ⟨v5, hv5, h⟩ := bindS h
  refine x_set (d := (eT (eT eI)) v5) (e_prim (os_cons (o_ex (e_comp (ex := (eT eI)) (ey := (eT eI)) [some (.dat (eK_Substitution p_sub)), none, none, none, none, none] _ (es_cons (e_call (ds := [eK_Substitution p_sub]) (s := Px.Slot.dat ((eT (eT eI)) v1)) (os_cons (o_ex (e_var rfl)) os_nil) (c_sign_table hv1)) es_nil) (it_tup) rfl rfl (fun x2 r h => by
      obtain ⟨v4, hv4, h⟩ := bindS h
      cases h
      exact ⟨_, _, _, rfl, c_nil, rfl, _, e_prim (os_cons (o_ex (e_comp (ex := eI) (ey := eI) [some (.dat (eK_Substitution p_sub)), none, none, none, some (.dat ((eT eI) x2)), none] _ (es_cons (e_var rfl) es_nil) (it_tup) rfl rfl (fun x3 r h => by
      cases h
      exact ⟨_, _, _, rfl, c_nil, rfl, _, e_prim (os_cons (o_ex (e_prim (os_cons (o_slot rfl) (os_cons (o_ex (e_con)) os_nil)) rfl (p_gt))) os_nil) rfl (pIntB), same_seq, rfl⟩) hv4 rfl)) os_nil) rfl (pTupL (e := eI)), same_seq, rfl⟩) hv5 rfl)) os_nil) rfl (pTupL (e := (eT eI)))) ?_
  change X _ _ [some (.dat (eK_Substitution p_sub)), some (.dat ((eT (eT eI)) v5)), none, none, none, none] _
  refine x_set (d := (eT (eT eI)) v5) (e_var rfl) ?_
  change X _ _ [some (.dat (eK_Substitution p_sub)), some (.dat ((eT (eT eI)) v5)), some (.dat ((eT (eT eI)) v5)), none, none, none] _
  obtain ⟨v6, hv6, h⟩ := bindS h
  obtain ⟨v7, hv7, h⟩ := bindS h
  obtain ⟨o17, ho17, h⟩ := bindS h
  refine x_forK (ex := eI) (fun (st : (List (List Int))) ρ' => ∃ y3, ∃ y4, ∃ y5, ρ' = [some (.dat (eK_Substitution p_sub)), some (.dat ((eT (eT eI)) v5)), some (.dat ((eT (eT eI)) st)), dO y3, dO y4, dO y5]) (fun (b : Bool) => Px.Slot.dat (eB b)) (fun x_1 st => F_is_primitive_l1 p_sub v5 x_1 st) (es_cons (e_prim (os_cons (o_ex (e_prim (os_cons (o_slot rfl) os_nil) rfl (pLenT (e := (eT eI))))) (os_cons (o_ex (e_prim (os_cons (o_slot rfl) os_nil) rfl (pLenT (e := (eT eI))))) os_nil)) rfl (pI hv6)) (es_nil)) (it_rng1 hv7) (by decide) ⟨none, none, none, rfl⟩ (fun x_1 st r ρ' hR hx => ?_) ho17 (fun s18 ρ' e hR => ?_) (fun b ρ' e => ?_)
  · obtain ⟨y3, y4, y5, rfl⟩ := hR
    refine ⟨_, rfl, ?_⟩
    exact x_mono (fun fl ρ'' hk => ⟨same_rng, hk⟩) (x_is_primitive_l1 c_sign_table c_times_table (c_sub := p_sub) (c_now := v5) (x_1 := x_1) (s_here := st) hx)
  · subst e
    obtain ⟨y3, y4, y5, rfl⟩ := hR
    change X _ _ [some (.dat (eK_Substitution p_sub)), some (.dat ((eT (eT eI)) v5)), some (.dat ((eT (eT eI)) s18)), dO y3, dO y4, dO y5] _
    refine x_ret (d := Px.Slot.dat (eB false)) (v_con) ?_
    cases h
    exact rfl
  · subst e
    cases h
    exact rfl
theorem w_is_primitive {k : Nat} {p_sub : (List (List Int))} {r : Bool} (h : F_is_primitive p_sub = some r) : callV (sigOf defs (k + 2)) "is_primitive" [eK_Substitution p_sub] = .ok (Px.Slot.dat (eB r)) :=
  callV_run fnd_is_primitive ⟨rfl, by decide⟩ (x_is_primitive (fun h => w_sign_table (k := k + 0) h) (fun h => w_times_table (k := k + 0) h) h)
def F_is_balanced_word_l2 (c_word : List Int) (c_size : Int) (x_2 : Int) : Option (Fl Unit Bool) :=
  (rngZ 0 (((((c_word.length : Nat) : Int) - c_size) + (1 : Int)))).bind fun v4 =>
  ((compO (fun (x5 : Int) => (cntZ ((cutZ c_word (some x5) (some ((x5 + c_size))))) x_2).bind fun v6 => some (some v6)) v4).bind shortL).bind fun v7 =>
  (maxL v7).bind fun v8 =>
  (minL v7).bind fun v9 =>
  if (decide ((1 : Int) < (v8 - v9))) = true then
    some (.ret false)
  else
    some (.nx (()))
theorem x_is_balanced_word_l2 {G : Sig}  {c_word : List Int} {c_size : Int} {x_2 : Int} {y3 : Option D} {y4 : Option D} {y5 : Option D} {r : Fl Unit Bool} (h : F_is_balanced_word_l2 c_word c_size x_2 = some r) : X G [.set false 3 (.comp [5] (false, [5]) .rng [.prim (.bin .Add) [.ex (.prim (.bin .Sub) [.ex (.prim (.bi .len) [.slot 0]), .slot 1]), .ex (.con (.int 1))]] [] (.prim (.mth .count) [.ex (.prim (.sl true true) [.slot 0, .ex (.var 5), .ex (.prim (.bin .Add) [.slot 5, .slot 1])]), .slot 2])), .ite (.val (.ex (.prim (.cmp .Gt) [.ex (.prim (.bin .Sub) [.ex (.prim (.bi .max) [.slot 3]), .ex (.prim (.bi .min) [.slot 3])]), .ex (.con (.int 1))]))) [
    .ret (.con (.bl false))] []] [some (.dat ((eT eI) c_word)), some (.dat (eI c_size)), some (.dat (eI x_2)), dO y3, dO y4, dO y5] (FlK (fun (s' : Unit) ρ'' => ∃ y2, ∃ y3, ∃ y4, ∃ y5, ρ'' = [some (.dat ((eT eI) c_word)), some (.dat (eI c_size)), dO y2, dO y3, dO y4, dO y5]) (fun (b : Bool) => Px.Slot.dat (eB b)) r) := by
  unfold F_is_balanced_word_l2 at h
  obtain ⟨v4, hv4, h⟩ := bindS h
  obtain ⟨v7, hv7, h⟩ := bindS h
  refine x_set (d := (eL eI) v7) (e_comp (ex := eI) (ey := eI) [some (.dat ((eT eI) c_word)), some (.dat (eI c_size)), some (.dat (eI x_2)), dO y3, dO y4, none] _ (es_cons (e_prim (os_cons (o_ex (e_prim (os_cons (o_ex (e_prim (os_cons (o_slot rfl) os_nil) rfl (pLenT (e := eI)))) (os_cons (o_slot rfl) os_nil)) rfl (p_sub))) (os_cons (o_ex (e_con)) os_nil)) rfl (p_add)) (es_nil)) (it_rng1 hv4) (by cases y5 <;> rfl) rfl (fun x5 r h => by
      obtain ⟨v6, hv6, h⟩ := bindS h
      cases h
      exact ⟨_, _, _, rfl, c_nil, rfl, _, e_prim (os_cons (o_ex (e_prim (os_cons (o_slot rfl) (os_cons (o_ex (e_var rfl)) (os_cons (o_ex (e_prim (os_cons (o_slot rfl) (os_cons (o_slot rfl) os_nil)) rfl (p_add))) os_nil))) rfl (pSl3T (e := eI)))) (os_cons (o_slot rfl) os_nil)) rfl (pCntT hv6), same_rng, rfl⟩) hv7 rfl) ?_
  change X _ _ [some (.dat ((eT eI) c_word)), some (.dat (eI c_size)), some (.dat (eI x_2)), some (.dat ((eL eI) v7)), dO y4, dO y5] _
  obtain ⟨v8, hv8, h⟩ := bindS h
  obtain ⟨v9, hv9, h⟩ := bindS h
  refine x_ite (t_val (o_ex (e_prim (os_cons (o_ex (e_prim (os_cons (o_ex (e_prim (os_cons (o_slot rfl) os_nil) rfl (pMaxL hv8))) (os_cons (o_ex (e_prim (os_cons (o_slot rfl) os_nil) rfl (pMinL hv9))) os_nil)) rfl (p_sub))) (os_cons (o_ex (e_con)) os_nil)) rfl (p_gt))) rfl rfl) (fun hc10 => ?_) (fun hc10 => ?_)
  · rw [if_pos hc10] at h
    simp only [List.cons_append, List.nil_append]
    refine x_ret (d := Px.Slot.dat (eB false)) (v_con) ?_
    cases h
    exact rfl
  · rw [if_neg (by rw [hc10]; exact Bool.false_ne_true)] at h
    simp only [List.cons_append, List.nil_append]
    cases h
    exact x_nil ⟨.inl rfl, ⟨(some (eI x_2)), (some ((eL eI) v7)), y4, y5, rfl⟩⟩
def F_is_balanced_word_l1 (c_word : List Int) (x_1 : Int) : Option (Fl Unit Bool) :=
  ((compO (fun (x2 : Int) =>  some (some ((x2, true)))) c_word).bind shortL).bind fun v3 =>
  (forS (fun x_2 st => F_is_balanced_word_l2 c_word x_1 x_2 ) ((nubI (v3.map Prod.fst))) ()).bind fun o11 =>
  match o11 with
  | .ret b => some (.ret b)
  | .nx s12 =>
    some (.nx (()))
theorem x_is_balanced_word_l1 {G : Sig}  {c_word : List Int} {x_1 : Int} {y2 : Option D} {y3 : Option D} {y4 : Option D} {y5 : Option D} {r : Fl Unit Bool} (h : F_is_balanced_word_l1 c_word x_1 = some r) : X G [.loop (false, [2]) .dk [.comp [4] (false, [4]) .seq [.var 0] [] (.dsp true [.var 4, .con (.bl true)])] [
    .set false 3 (.comp [5] (false, [5]) .rng [.prim (.bin .Add) [.ex (.prim (.bin .Sub) [.ex (.prim (.bi .len) [.slot 0]), .slot 1]), .ex (.con (.int 1))]] [] (.prim (.mth .count) [.ex (.prim (.sl true true) [.slot 0, .ex (.var 5), .ex (.prim (.bin .Add) [.slot 5, .slot 1])]), .slot 2])),
    .ite (.val (.ex (.prim (.cmp .Gt) [.ex (.prim (.bin .Sub) [.ex (.prim (.bi .max) [.slot 3]), .ex (.prim (.bi .min) [.slot 3])]), .ex (.con (.int 1))]))) [
    .ret (.con (.bl false))] []]] [some (.dat ((eT eI) c_word)), some (.dat (eI x_1)), dO y2, dO y3, dO y4, dO y5] (FlK (fun (s' : Unit) ρ'' => ∃ y1, ∃ y2, ∃ y3, ∃ y4, ∃ y5, ρ'' = [some (.dat ((eT eI) c_word)), dO y1, dO y2, dO y3, dO y4, dO y5]) (fun (b : Bool) => Px.Slot.dat (eB b)) r) := by
  unfold F_is_balanced_word_l1 at h
  obtain ⟨v3, hv3, h⟩ := bindS h
  obtain ⟨o11, ho11, h⟩ := bindS h
  refine x_forK (ex := eI) (fun (st : Unit) ρ' => ∃ y2, ∃ y3, ∃ y4, ∃ y5, ρ' = [some (.dat ((eT eI) c_word)), some (.dat (eI x_1)), dO y2, dO y3, dO y4, dO y5]) (fun (b : Bool) => Px.Slot.dat (eB b)) (fun x_2 st => F_is_balanced_word_l2 c_word x_1 x_2 ) (es_cons (e_comp (ex := eI) (ey := (eP eI eB)) [some (.dat ((eT eI) c_word)), some (.dat (eI x_1)), dO y2, dO y3, none, dO y5] _ (es_cons (e_var rfl) es_nil) (it_tup) (by cases y4 <;> rfl) rfl (fun x2 r h => by
      cases h
      exact ⟨_, _, _, rfl, c_nil, rfl, _, e_tup (es_cons (e_var rfl) (es_cons (e_con) (es_nil))), same_seq, rfl⟩) hv3 rfl) es_nil) (it_dk (f := eB)) (by decide) ⟨y2, y3, y4, y5, rfl⟩ (fun x_2 st r ρ' hR hx => ?_) ho11 (fun s12 ρ' e hR => ?_) (fun b ρ' e => ?_)
  · obtain ⟨y2, y3, y4, y5, rfl⟩ := hR
    refine ⟨_, rfl, ?_⟩
    exact x_mono (fun fl ρ'' hk => ⟨same_dk, hk⟩) (x_is_balanced_word_l2  (c_word := c_word) (c_size := x_1) (x_2 := x_2)  hx)
  · subst e
    obtain ⟨y2, y3, y4, y5, rfl⟩ := hR
    change X _ _ [some (.dat ((eT eI) c_word)), some (.dat (eI x_1)), dO y2, dO y3, dO y4, dO y5] _
    cases h
    exact x_nil ⟨.inl rfl, ⟨(some (eI x_1)), y2, y3, y4, y5, rfl⟩⟩
  · subst e
    cases h
    exact rfl
def F_is_balanced_word (p_word : List Int) : Option Bool :=
  (rngZ ((1 : Int)) (((p_word.length : Nat) : Int))).bind fun v1 =>
  (forS (fun x_1 st => F_is_balanced_word_l1 p_word x_1 ) v1 ()).bind fun o13 =>
  match o13 with
  | .ret b => some b
  | .nx s14 =>
    some true
theorem x_is_balanced_word {G : Sig}  {p_word : List Int} {r : Bool} (h : F_is_balanced_word p_word = some r) : X G d_is_balanced_word.body [some (.dat ((eT eI) p_word)), none, none, none, none, none] (fun fl _ => match fl with | .nx => Px.Slot.dat (eB r) = Px.Slot.dat .non | .ret s => Px.Slot.dat (eB r) = s | _ => False) := by
  rw [d_is_balanced_word]
  unfold F_is_balanced_word at h
  obtain ⟨v1, hv1, h⟩ := bindS h
  obtain ⟨o13, ho13, h⟩ := bindS h
  refine x_forK (ex := eI) (fun (st : Unit) ρ' => ∃ y1, ∃ y2, ∃ y3, ∃ y4, ∃ y5, ρ' = [some (.dat ((eT eI) p_word)), dO y1, dO y2, dO y3, dO y4, dO y5]) (fun (b : Bool) => Px.Slot.dat (eB b)) (fun x_1 st => F_is_balanced_word_l1 p_word x_1 ) (es_cons (e_con) (es_cons (e_prim (os_cons (o_slot rfl) os_nil) rfl (pLenT (e := eI))) (es_nil))) (it_rng2 hv1) (by decide) ⟨none, none, none, none, none, rfl⟩ (fun x_1 st r ρ' hR hx => ?_) ho13 (fun s14 ρ' e hR => ?_) (fun b ρ' e => ?_)
  · obtain ⟨y1, y2, y3, y4, y5, rfl⟩ := hR
    refine ⟨_, rfl, ?_⟩
    exact x_mono (fun fl ρ'' hk => ⟨same_rng, hk⟩) (x_is_balanced_word_l1  (c_word := p_word) (x_1 := x_1)  hx)
  · subst e
    obtain ⟨y1, y2, y3, y4, y5, rfl⟩ := hR
    change X _ _ [some (.dat ((eT eI) p_word)), dO y1, dO y2, dO y3, dO y4, dO y5] _
    refine x_ret (d := Px.Slot.dat (eB true)) (v_con) ?_
    cases h
    exact rfl
  · subst e
    cases h
    exact rfl
theorem w_is_balanced_word {k : Nat} {p_word : List Int} {r : Bool} (h : F_is_balanced_word p_word = some r) : callV (sigOf defs (k + 1)) "is_balanced_word" [(eT eI) p_word] = .ok (Px.Slot.dat (eB r)) :=
  callV_run fnd_is_balanced_word ⟨rfl, by decide⟩ (x_is_balanced_word  h)
def F_least_turn (p_word : List Int) : Option (List Int) :=
  (rngZ 0 (((p_word.length : Nat) : Int))).bind fun v1 =>
  ((compO (fun (x2 : Int) => (F_turned p_word x2).bind fun v3 => some (some v3)) v1).bind shortL).bind fun v4 =>
  (minWZ v4 ([])).bind fun v5 =>
  some v5
theorem x_least_turn {G : Sig} (c_turned : ∀ {p0 : List Int} {p1 : Int} {r : List Int}, F_turned p0 p1 = some r → callV G "turned" [(eT eI) p0, eI p1] = .ok (Px.Slot.dat ((eT eI) r))) {p_word : List Int} {r : List Int} (h : F_least_turn p_word = some r) : X G d_least_turn.body [some (.dat ((eT eI) p_word)), none] (fun fl _ => match fl with | .nx => Px.Slot.dat ((eT eI) r) = Px.Slot.dat .non | .ret s => Px.Slot.dat ((eT eI) r) = s | _ => False) := by
  rw [d_least_turn]
  unfold F_least_turn at h
  obtain ⟨v1, hv1, h⟩ := bindS h
  obtain ⟨v4, hv4, h⟩ := bindS h
  obtain ⟨v5, hv5, h⟩ := bindS h
  refine x_ret (d := Px.Slot.dat ((eT eI) v5)) (v_prim (e_prim (os_cons (o_ex (e_comp (ex := eI) (ey := (eT eI)) [some (.dat ((eT eI) p_word)), none] _ (es_cons (e_prim (os_cons (o_slot rfl) os_nil) rfl (pLenT (e := eI))) (es_nil)) (it_rng1 hv1) rfl rfl (fun x2 r h => by
      obtain ⟨v3, hv3, h⟩ := bindS h
      cases h
      exact ⟨_, _, _, rfl, c_nil, rfl, _, e_call (ds := [(eT eI) p_word, eI x2]) (s := Px.Slot.dat ((eT eI) v3)) (os_cons (o_ex (e_var rfl)) (os_cons (o_ex (e_var rfl)) os_nil)) (c_turned hv3), same_rng, rfl⟩) hv4 rfl)) (os_cons (o_ex (e_tup (es_nil))) os_nil)) rfl (pMinW hv5)) rfl) ?_
  cases h
  exact rfl
theorem w_least_turn {k : Nat} {p_word : List Int} {r : List Int} (h : F_least_turn p_word = some r) : callV (sigOf defs (k + 2)) "least_turn" [(eT eI) p_word] = .ok (Px.Slot.dat ((eT eI) r)) :=
  callV_run fnd_least_turn ⟨rfl, by decide⟩ (x_least_turn (fun h => w_turned (k := k + 0) h) h)
def F_law_l1 (nx : List D → Int → Option (Int × List D)) (c_script : List Int) (c_tape : List D) (c_way : List Int) (c_left : (List (List Int))) (c_right : (List (List Int))) (x_1 : Int) (s_whole : (List (List Int))) : Option (Fl (((List (List Int)))) Bool) :=
  (F_composed_substitution s_whole ((if (x_1 != 0) = true then c_right else c_left))).bind fun v11 =>
  some (.nx v11)
theorem x_law_l1 {G : Sig} (c_Substitution_init : ∀ {p0 : List (List Int)} {r : (List (List Int))}, F_Substitution_init p0 = some r → makeR G "Substitution" [(eL (eT eI)) p0] = .ok (eK_Substitution r)) (c_composed_substitution : ∀ {p0 : (List (List Int))} {p1 : (List (List Int))} {r : (List (List Int))}, F_composed_substitution p0 p1 = some r → callV G "composed_substitution" [eK_Substitution p0, eK_Substitution p1] = .ok (Px.Slot.dat (eK_Substitution r))) (c_Substitution_put : ∀ {p0 : (List (List Int))} {p1 : List Int} {r : List Int}, F_Substitution_put p0 p1 = some r → methR G (eK_Substitution p0) "put" [(eT eI) p1] = .ok (Px.Slot.dat ((eT eI) r))) (c_pair_of_way : ∀ {p0 : List Int} {r : List Int}, F_pair_of_way p0 = some r → callV G "pair_of_way" [(eT eI) p0] = .ok (Px.Slot.dat ((eT eI) r))) (c_put_words : ∀ {p0 : List Int} {r : List Int}, F_put_words p0 = some r → callV G "put_words" [(eT eI) p0] = .ok (Px.Slot.dat ((eT eI) r))) (c_lower_word : ∀ {p0 : Int} {p1 : Int} {r : List Int}, F_lower_word p0 p1 = some r → callV G "lower_word" [eI p0, eI p1] = .ok (Px.Slot.dat ((eT eI) r))) (c_tree_way : ∀ {p0 : Int} {p1 : Int} {r : List Int}, F_tree_way p0 p1 = some r → callV G "tree_way" [eI p0, eI p1] = .ok (Px.Slot.dat ((eT eI) r))) (c_sign_counts : ∀ {p0 : List Int} {p1 : Int} {r : List Int}, F_sign_counts p0 p1 = some r → callV G "sign_counts" [(eT eI) p0, eI p1] = .ok (Px.Slot.dat ((eT eI) r))) (c_is_lower : ∀ {p0 : List Int} {r : Bool}, F_is_lower p0 = some r → callV G "is_lower" [(eT eI) p0] = .ok (Px.Slot.dat (eB r))) (c_sign_table : ∀ {p0 : (List (List Int))} {r : List (List Int)}, F_sign_table p0 = some r → callV G "sign_table" [eK_Substitution p0] = .ok (Px.Slot.dat ((eT (eT eI)) r))) (c_is_even_ring : ∀ {p0 : List Int} {r : Bool}, F_is_even_ring p0 = some r → callV G "is_even_ring" [(eT eI) p0] = .ok (Px.Slot.dat (eB r))) (c_told_slope : ∀ {p0 : List Int} {r : Option (List Int)}, F_told_slope p0 = some r → callV G "told_slope" [(eT eI) p0] = .ok (Px.Slot.dat ((eO (eT eI)) r))) (c_middle_word : ∀ {p0 : Int} {p1 : Int} {r : List Int}, F_middle_word p0 p1 = some r → callV G "middle_word" [eI p0, eI p1] = .ok (Px.Slot.dat ((eT eI) r))) (c_fixed_beginning : ∀ {p0 : (List (List Int))} {p1 : Int} {p2 : Int} {p3 : Int} {r : List Int}, F_fixed_beginning p0 p1 p2 p3 = some r → callV G "fixed_beginning" [eK_Substitution p0, eI p1, eI p2, eI p3] = .ok (Px.Slot.dat ((eT eI) r))) (c_is_primitive : ∀ {p0 : (List (List Int))} {r : Bool}, F_is_primitive p0 = some r → callV G "is_primitive" [eK_Substitution p0] = .ok (Px.Slot.dat (eB r))) (c_is_balanced_word : ∀ {p0 : List Int} {r : Bool}, F_is_balanced_word p0 = some r → callV G "is_balanced_word" [(eT eI) p0] = .ok (Px.Slot.dat (eB r))) (c_least_turn : ∀ {p0 : List Int} {r : List Int}, F_least_turn p0 = some r → callV G "least_turn" [(eT eI) p0] = .ok (Px.Slot.dat ((eT eI) r))) (c_turned : ∀ {p0 : List Int} {p1 : Int} {r : List Int}, F_turned p0 p1 = some r → callV G "turned" [(eT eI) p0, eI p1] = .ok (Px.Slot.dat ((eT eI) r))) {g : Gfun} (hG : G "_law_next" = some g) {c_script : List Int} {c_tape : List D} {c_way : List Int} {c_left : (List (List Int))} {c_right : (List (List Int))} {x_1 : Int} {s_whole : (List (List Int))}  {r : Fl (((List (List Int)))) Bool} (h : F_law_l1 (drawF g) c_script c_tape c_way c_left c_right x_1 s_whole = some r) : X G [.set false 3 (.call "composed_substitution" [.ex (.var 3), .ex (.ite (.val (.slot 4)) (.var 14) (.var 13))])] [some (.dat ((eL eI) c_script)), some (.own c_tape), some (.dat ((eT eI) c_way)), some (.dat (eK_Substitution s_whole)), some (.dat (eI x_1)), none, none, none, none, none, none, none, none, some (.dat (eK_Substitution c_left)), some (.dat (eK_Substitution c_right)), none, none, none, none, none, none, none, none, none] (FlK (fun (s' : ((List (List Int)))) ρ'' => ∃ y4, ρ'' = [some (.dat ((eL eI) c_script)), some (.own c_tape), some (.dat ((eT eI) c_way)), some (.dat (eK_Substitution s')), dO y4, none, none, none, none, none, none, none, none, some (.dat (eK_Substitution c_left)), some (.dat (eK_Substitution c_right)), none, none, none, none, none, none, none, none, none]) (fun (b : Bool) => Px.Slot.dat (eB b)) r) := by
  unfold F_law_l1 at h
  obtain ⟨v11, hv11, h⟩ := bindS h
  refine x_set (d := eK_Substitution v11) (e_call (ds := [eK_Substitution s_whole, eK_Substitution ((if (x_1 != 0) = true then c_right else c_left))]) (s := Px.Slot.dat (eK_Substitution v11)) (os_cons (o_ex (e_var rfl)) (os_cons (o_ex (e_iteT (e := eK_Substitution) (t_val (o_slot rfl) rfl rfl) (e_var rfl) (e_var rfl))) os_nil)) (c_composed_substitution hv11)) ?_
  change X _ _ [some (.dat ((eL eI) c_script)), some (.own c_tape), some (.dat ((eT eI) c_way)), some (.dat (eK_Substitution v11)), some (.dat (eI x_1)), none, none, none, none, none, none, none, none, some (.dat (eK_Substitution c_left)), some (.dat (eK_Substitution c_right)), none, none, none, none, none, none, none, none, none] _
  cases h
  exact x_nil ⟨.inl rfl, ⟨(some (eI x_1)), rfl⟩⟩
def F_law_l3 (nx : List D → Int → Option (Int × List D)) (c_tape : List D) (c_word : List Int) (c_golden : (List (List Int))) (x_3 : Int) (s_a : List Int) (s_b : List Int) : Option (Fl ((List Int) × (List Int)) Bool) :=
  (atI s_a ((0 : Int))).bind fun v71 =>
  (atI s_b ((0 : Int))).bind fun v72 =>
  (atI s_a ((1 : Int))).bind fun v73 =>
  (atI s_b ((1 : Int))).bind fun v74 =>
  (some ([(v71 + v72), (v73 + v74)])).bind fun a75 =>
  some (.nx ((s_b, a75)))
theorem x_law_l3 {G : Sig} (c_Substitution_init : ∀ {p0 : List (List Int)} {r : (List (List Int))}, F_Substitution_init p0 = some r → makeR G "Substitution" [(eL (eT eI)) p0] = .ok (eK_Substitution r)) (c_composed_substitution : ∀ {p0 : (List (List Int))} {p1 : (List (List Int))} {r : (List (List Int))}, F_composed_substitution p0 p1 = some r → callV G "composed_substitution" [eK_Substitution p0, eK_Substitution p1] = .ok (Px.Slot.dat (eK_Substitution r))) (c_Substitution_put : ∀ {p0 : (List (List Int))} {p1 : List Int} {r : List Int}, F_Substitution_put p0 p1 = some r → methR G (eK_Substitution p0) "put" [(eT eI) p1] = .ok (Px.Slot.dat ((eT eI) r))) (c_pair_of_way : ∀ {p0 : List Int} {r : List Int}, F_pair_of_way p0 = some r → callV G "pair_of_way" [(eT eI) p0] = .ok (Px.Slot.dat ((eT eI) r))) (c_put_words : ∀ {p0 : List Int} {r : List Int}, F_put_words p0 = some r → callV G "put_words" [(eT eI) p0] = .ok (Px.Slot.dat ((eT eI) r))) (c_lower_word : ∀ {p0 : Int} {p1 : Int} {r : List Int}, F_lower_word p0 p1 = some r → callV G "lower_word" [eI p0, eI p1] = .ok (Px.Slot.dat ((eT eI) r))) (c_tree_way : ∀ {p0 : Int} {p1 : Int} {r : List Int}, F_tree_way p0 p1 = some r → callV G "tree_way" [eI p0, eI p1] = .ok (Px.Slot.dat ((eT eI) r))) (c_sign_counts : ∀ {p0 : List Int} {p1 : Int} {r : List Int}, F_sign_counts p0 p1 = some r → callV G "sign_counts" [(eT eI) p0, eI p1] = .ok (Px.Slot.dat ((eT eI) r))) (c_is_lower : ∀ {p0 : List Int} {r : Bool}, F_is_lower p0 = some r → callV G "is_lower" [(eT eI) p0] = .ok (Px.Slot.dat (eB r))) (c_sign_table : ∀ {p0 : (List (List Int))} {r : List (List Int)}, F_sign_table p0 = some r → callV G "sign_table" [eK_Substitution p0] = .ok (Px.Slot.dat ((eT (eT eI)) r))) (c_is_even_ring : ∀ {p0 : List Int} {r : Bool}, F_is_even_ring p0 = some r → callV G "is_even_ring" [(eT eI) p0] = .ok (Px.Slot.dat (eB r))) (c_told_slope : ∀ {p0 : List Int} {r : Option (List Int)}, F_told_slope p0 = some r → callV G "told_slope" [(eT eI) p0] = .ok (Px.Slot.dat ((eO (eT eI)) r))) (c_middle_word : ∀ {p0 : Int} {p1 : Int} {r : List Int}, F_middle_word p0 p1 = some r → callV G "middle_word" [eI p0, eI p1] = .ok (Px.Slot.dat ((eT eI) r))) (c_fixed_beginning : ∀ {p0 : (List (List Int))} {p1 : Int} {p2 : Int} {p3 : Int} {r : List Int}, F_fixed_beginning p0 p1 p2 p3 = some r → callV G "fixed_beginning" [eK_Substitution p0, eI p1, eI p2, eI p3] = .ok (Px.Slot.dat ((eT eI) r))) (c_is_primitive : ∀ {p0 : (List (List Int))} {r : Bool}, F_is_primitive p0 = some r → callV G "is_primitive" [eK_Substitution p0] = .ok (Px.Slot.dat (eB r))) (c_is_balanced_word : ∀ {p0 : List Int} {r : Bool}, F_is_balanced_word p0 = some r → callV G "is_balanced_word" [(eT eI) p0] = .ok (Px.Slot.dat (eB r))) (c_least_turn : ∀ {p0 : List Int} {r : List Int}, F_least_turn p0 = some r → callV G "least_turn" [(eT eI) p0] = .ok (Px.Slot.dat ((eT eI) r))) (c_turned : ∀ {p0 : List Int} {p1 : Int} {r : List Int}, F_turned p0 p1 = some r → callV G "turned" [(eT eI) p0, eI p1] = .ok (Px.Slot.dat ((eT eI) r))) {g : Gfun} (hG : G "_law_next" = some g) {c_tape : List D} {c_word : List Int} {c_golden : (List (List Int))} {x_3 : Int} {s_a : List Int} {s_b : List Int} {y0 : Option D} {y2 : Option D} {y3 : Option D} {y4 : Option D} {y6 : Option D} {y7 : Option D} {y8 : Option D} {y13 : Option D} {y14 : Option D} {y15 : Option D} {y16 : Option D} {y17 : Option D} {y18 : Option D} {y21 : Option D} {y22 : Option D} {r : Fl ((List Int) × (List Int)) Bool} (h : F_law_l3 (drawF g) c_tape c_word c_golden x_3 s_a s_b = some r) : X G [.par false 19 false 20 (.var 20) (.dsp true [.prim (.bin .Add) [.ex (.prim .ix [.slot 19, .ex (.con (.int 0))]), .ex (.prim .ix [.slot 20, .ex (.con (.int 0))])], .prim (.bin .Add) [.ex (.prim .ix [.slot 19, .ex (.con (.int 1))]), .ex (.prim .ix [.slot 20, .ex (.con (.int 1))])]])] [dO y0, some (.own c_tape), dO y2, dO y3, dO y4, some (.dat ((eT eI) c_word)), dO y6, dO y7, dO y8, some (.dat (eK_Substitution c_golden)), some (.dat (eI x_3)), none, none, dO y13, dO y14, dO y15, dO y16, dO y17, dO y18, some (.dat ((eT eI) s_a)), some (.dat ((eT eI) s_b)), dO y21, dO y22, none] (FlK (fun (s' : (List Int) × (List Int)) ρ'' => ∃ y0, ∃ y2, ∃ y3, ∃ y4, ∃ y6, ∃ y7, ∃ y8, ∃ y10, ∃ y13, ∃ y14, ∃ y15, ∃ y16, ∃ y17, ∃ y18, ∃ y21, ∃ y22, ρ'' = [dO y0, some (.own c_tape), dO y2, dO y3, dO y4, some (.dat ((eT eI) c_word)), dO y6, dO y7, dO y8, some (.dat (eK_Substitution c_golden)), dO y10, none, none, dO y13, dO y14, dO y15, dO y16, dO y17, dO y18, some (.dat ((eT eI) s'.1)), some (.dat ((eT eI) s'.2)), dO y21, dO y22, none]) (fun (b : Bool) => Px.Slot.dat (eB b)) r) := by
  unfold F_law_l3 at h
  obtain ⟨v71, hv71, h⟩ := bindS h
  obtain ⟨v72, hv72, h⟩ := bindS h
  obtain ⟨v73, hv73, h⟩ := bindS h
  obtain ⟨v74, hv74, h⟩ := bindS h
  obtain ⟨a75, ha75, h⟩ := bindS h
  have ha75 := Option.some.inj ha75
  refine x_par (d := (eT eI) s_b) (c := (eT eI) a75) (e_var rfl) (ev_eq (e_tup (es_cons (e_prim (os_cons (o_ex (e_prim (os_cons (o_slot rfl) (os_cons (o_ex (e_con)) os_nil)) rfl (pIxT (e := eI) hv71))) (os_cons (o_ex (e_prim (os_cons (o_slot rfl) (os_cons (o_ex (e_con)) os_nil)) rfl (pIxT (e := eI) hv72))) os_nil)) rfl (p_add)) (es_cons (e_prim (os_cons (o_ex (e_prim (os_cons (o_slot rfl) (os_cons (o_ex (e_con)) os_nil)) rfl (pIxT (e := eI) hv73))) (os_cons (o_ex (e_prim (os_cons (o_slot rfl) (os_cons (o_ex (e_con)) os_nil)) rfl (pIxT (e := eI) hv74))) os_nil)) rfl (p_add)) (es_nil)))) (congrArg (eT eI) ha75)) ?_
  change X _ _ [dO y0, some (.own c_tape), dO y2, dO y3, dO y4, some (.dat ((eT eI) c_word)), dO y6, dO y7, dO y8, some (.dat (eK_Substitution c_golden)), some (.dat (eI x_3)), none, none, dO y13, dO y14, dO y15, dO y16, dO y17, dO y18, some (.dat ((eT eI) s_b)), some (.dat ((eT eI) a75)), dO y21, dO y22, none] _
  cases h
  exact x_nil ⟨.inl rfl, ⟨y0, y2, y3, y4, y6, y7, y8, (some (eI x_3)), y13, y14, y15, y16, y17, y18, y21, y22, rfl⟩⟩
def F_law_j2 (nx : List D → Int → Option (Int × List D)) (j_tape : List D) (j_word : List Int) : Option Bool :=
  (F_Substitution_init ([[(0 : Int), (1 : Int)], [(0 : Int)]])).bind fun v66 =>
  (some ([(1 : Int), (1 : Int)])).bind fun a67 =>
  (some ([(2 : Int), (1 : Int)])).bind fun a68 =>
  (nx j_tape ((5 : Int))).bind fun z69 =>
  (rngZ 0 z69.1).bind fun v70 =>
  (forS (fun x_3 st => F_law_l3 nx z69.2 j_word v66 x_3 st.1 st.2) v70 (a67, a68)).bind fun o76 =>
  match o76 with
  | .ret b => some b
  | .nx s77 =>
    (atI s77.2 ((0 : Int))).bind fun v78 =>
    (atI s77.2 ((1 : Int))).bind fun v79 =>
    (F_middle_word v78 v79).bind fun v80 =>
    (F_fixed_beginning v66 ((0 : Int)) ((1 : Int)) (((v80.length : Nat) : Int))).bind fun v81 =>
    (eqT v81 v80).bind fun v82 =>
    (if (!v82) = true then some true else (F_is_primitive v66).bind fun v83 => (if (!v83) = true then some true else (F_fixed_beginning v66 ((0 : Int)) ((1 : Int)) ((30 : Int))).bind fun v84 => (F_is_balanced_word v84).bind fun v85 => some ((!decide (v85 = true)))).bind fun v86 => some v86).bind fun v87 =>
    if v87 = true then
      some false
    else
      (nx z69.2 (((j_word.length : Nat) : Int))).bind fun z88 =>
      (some z88.1).bind fun a89 =>
      (F_turned j_word a89).bind fun v90 =>
      (F_least_turn v90).bind fun v91 =>
      (eqT v91 j_word).bind fun v92 =>
      some v92
theorem x_law_j2 {G : Sig} (c_Substitution_init : ∀ {p0 : List (List Int)} {r : (List (List Int))}, F_Substitution_init p0 = some r → makeR G "Substitution" [(eL (eT eI)) p0] = .ok (eK_Substitution r)) (c_composed_substitution : ∀ {p0 : (List (List Int))} {p1 : (List (List Int))} {r : (List (List Int))}, F_composed_substitution p0 p1 = some r → callV G "composed_substitution" [eK_Substitution p0, eK_Substitution p1] = .ok (Px.Slot.dat (eK_Substitution r))) (c_Substitution_put : ∀ {p0 : (List (List Int))} {p1 : List Int} {r : List Int}, F_Substitution_put p0 p1 = some r → methR G (eK_Substitution p0) "put" [(eT eI) p1] = .ok (Px.Slot.dat ((eT eI) r))) (c_pair_of_way : ∀ {p0 : List Int} {r : List Int}, F_pair_of_way p0 = some r → callV G "pair_of_way" [(eT eI) p0] = .ok (Px.Slot.dat ((eT eI) r))) (c_put_words : ∀ {p0 : List Int} {r : List Int}, F_put_words p0 = some r → callV G "put_words" [(eT eI) p0] = .ok (Px.Slot.dat ((eT eI) r))) (c_lower_word : ∀ {p0 : Int} {p1 : Int} {r : List Int}, F_lower_word p0 p1 = some r → callV G "lower_word" [eI p0, eI p1] = .ok (Px.Slot.dat ((eT eI) r))) (c_tree_way : ∀ {p0 : Int} {p1 : Int} {r : List Int}, F_tree_way p0 p1 = some r → callV G "tree_way" [eI p0, eI p1] = .ok (Px.Slot.dat ((eT eI) r))) (c_sign_counts : ∀ {p0 : List Int} {p1 : Int} {r : List Int}, F_sign_counts p0 p1 = some r → callV G "sign_counts" [(eT eI) p0, eI p1] = .ok (Px.Slot.dat ((eT eI) r))) (c_is_lower : ∀ {p0 : List Int} {r : Bool}, F_is_lower p0 = some r → callV G "is_lower" [(eT eI) p0] = .ok (Px.Slot.dat (eB r))) (c_sign_table : ∀ {p0 : (List (List Int))} {r : List (List Int)}, F_sign_table p0 = some r → callV G "sign_table" [eK_Substitution p0] = .ok (Px.Slot.dat ((eT (eT eI)) r))) (c_is_even_ring : ∀ {p0 : List Int} {r : Bool}, F_is_even_ring p0 = some r → callV G "is_even_ring" [(eT eI) p0] = .ok (Px.Slot.dat (eB r))) (c_told_slope : ∀ {p0 : List Int} {r : Option (List Int)}, F_told_slope p0 = some r → callV G "told_slope" [(eT eI) p0] = .ok (Px.Slot.dat ((eO (eT eI)) r))) (c_middle_word : ∀ {p0 : Int} {p1 : Int} {r : List Int}, F_middle_word p0 p1 = some r → callV G "middle_word" [eI p0, eI p1] = .ok (Px.Slot.dat ((eT eI) r))) (c_fixed_beginning : ∀ {p0 : (List (List Int))} {p1 : Int} {p2 : Int} {p3 : Int} {r : List Int}, F_fixed_beginning p0 p1 p2 p3 = some r → callV G "fixed_beginning" [eK_Substitution p0, eI p1, eI p2, eI p3] = .ok (Px.Slot.dat ((eT eI) r))) (c_is_primitive : ∀ {p0 : (List (List Int))} {r : Bool}, F_is_primitive p0 = some r → callV G "is_primitive" [eK_Substitution p0] = .ok (Px.Slot.dat (eB r))) (c_is_balanced_word : ∀ {p0 : List Int} {r : Bool}, F_is_balanced_word p0 = some r → callV G "is_balanced_word" [(eT eI) p0] = .ok (Px.Slot.dat (eB r))) (c_least_turn : ∀ {p0 : List Int} {r : List Int}, F_least_turn p0 = some r → callV G "least_turn" [(eT eI) p0] = .ok (Px.Slot.dat ((eT eI) r))) (c_turned : ∀ {p0 : List Int} {p1 : Int} {r : List Int}, F_turned p0 p1 = some r → callV G "turned" [(eT eI) p0, eI p1] = .ok (Px.Slot.dat ((eT eI) r))) {g : Gfun} (hG : G "_law_next" = some g) {j_tape : List D} {j_word : List Int} {y0 : Option D} {y2 : Option D} {y3 : Option D} {y4 : Option D} {y6 : Option D} {y7 : Option D} {y8 : Option D} {y13 : Option D} {y14 : Option D} {y15 : Option D} {y16 : Option D} {y17 : Option D} {y18 : Option D} {y21 : Option D} {y22 : Option D}  {r : Bool} (h : F_law_j2 (drawF g) j_tape j_word = some r) : X G [.set false 9 (.make "Substitution" [.dsp false [.dsp true [.con (.int 0), .con (.int 1)], .dsp true [.con (.int 0)]]]), .upk [19, 20] (.dsp true [.dsp true [.con (.int 1), .con (.int 1)], .dsp true [.con (.int 2), .con (.int 1)]]), .loop (false, [10]) .rng [.call "_law_next" [.slot 1, .ex (.con (.int 5))]] [
    .par false 19 false 20 (.var 20) (.dsp true [.prim (.bin .Add) [.ex (.prim .ix [.slot 19, .ex (.con (.int 0))]), .ex (.prim .ix [.slot 20, .ex (.con (.int 0))])], .prim (.bin .Add) [.ex (.prim .ix [.slot 19, .ex (.con (.int 1))]), .ex (.prim .ix [.slot 20, .ex (.con (.int 1))])]])], .set false 11 (.call "middle_word" [.ex (.prim .ix [.slot 20, .ex (.con (.int 0))]), .ex (.prim .ix [.slot 20, .ex (.con (.int 1))])]), .ite (.bop false [.val (.ex (.prim (.cmp .NotEq) [.ex (.call "fixed_beginning" [.ex (.var 9), .ex (.con (.int 0)), .ex (.con (.int 1)), .ex (.prim (.bi .len) [.slot 11])]), .slot 11])), .not (.val (.ex (.call "is_primitive" [.ex (.var 9)]))), .val (.ex (.prim (.cmp .IsNot) [.ex (.call "is_balanced_word" [.ex (.call "fixed_beginning" [.ex (.var 9), .ex (.con (.int 0)), .ex (.con (.int 1)), .ex (.con (.int 30))])]), .ex (.con (.bl true))]))]) [
    .ret (.con (.bl false))] [], .set false 12 (.call "_law_next" [.slot 1, .ex (.prim (.bi .len) [.slot 5])]), .ret (.prim (.cmp .Eq) [.ex (.call "least_turn" [.ex (.call "turned" [.ex (.var 5), .ex (.var 12)])]), .slot 5])] [dO y0, some (.own j_tape), dO y2, dO y3, dO y4, some (.dat ((eT eI) j_word)), dO y6, dO y7, dO y8, none, none, none, none, dO y13, dO y14, dO y15, dO y16, dO y17, dO y18, none, none, dO y21, dO y22, none] (fun fl _ => match fl with | .nx => Px.Slot.dat (eB r) = Px.Slot.dat .non | .ret s => Px.Slot.dat (eB r) = s | _ => False) := by
  unfold F_law_j2 at h
  obtain ⟨v66, hv66, h⟩ := bindS h
  refine x_set (d := eK_Substitution v66) (e_make (es_cons (e_lst (es_cons (e_tup (es_cons (e_con) (es_cons (e_con) (es_nil)))) (es_cons (e_tup (es_cons (e_con) (es_nil))) (es_nil)))) (es_nil)) (c_Substitution_init hv66)) ?_
  change X _ _ [dO y0, some (.own j_tape), dO y2, dO y3, dO y4, some (.dat ((eT eI) j_word)), dO y6, dO y7, dO y8, some (.dat (eK_Substitution v66)), none, none, none, dO y13, dO y14, dO y15, dO y16, dO y17, dO y18, none, none, dO y21, dO y22, none] _
  obtain ⟨a67, ha67, h⟩ := bindS h
  have ha67 := Option.some.inj ha67
  obtain ⟨a68, ha68, h⟩ := bindS h
  have ha68 := Option.some.inj ha68
  refine x_upk (d := .tup [(eT eI) a67, (eT eI) a68]) (e_tup (es_cons (ev_eq (e_tup (es_cons (e_con) (es_cons (e_con) (es_nil)))) (congrArg (eT eI) ha67)) (es_cons (ev_eq (e_tup (es_cons (e_con) (es_cons (e_con) (es_nil)))) (congrArg (eT eI) ha68)) (es_nil)))) rfl ?_
  change X _ _ [dO y0, some (.own j_tape), dO y2, dO y3, dO y4, some (.dat ((eT eI) j_word)), dO y6, dO y7, dO y8, some (.dat (eK_Substitution v66)), none, none, none, dO y13, dO y14, dO y15, dO y16, dO y17, dO y18, some (.dat ((eT eI) a67)), some (.dat ((eT eI) a68)), dO y21, dO y22, none] _
  obtain ⟨z69, hz69, h⟩ := bindS h
  obtain ⟨v70, hv70, h⟩ := bindS h
  obtain ⟨o76, ho76, h⟩ := bindS h
  refine x_forK (ex := eI) (fun (st : (List Int) × (List Int)) ρ' => ∃ y0, ∃ y2, ∃ y3, ∃ y4, ∃ y6, ∃ y7, ∃ y8, ∃ y10, ∃ y13, ∃ y14, ∃ y15, ∃ y16, ∃ y17, ∃ y18, ∃ y21, ∃ y22, ρ' = [dO y0, some (.own z69.2), dO y2, dO y3, dO y4, some (.dat ((eT eI) j_word)), dO y6, dO y7, dO y8, some (.dat (eK_Substitution v66)), dO y10, none, none, dO y13, dO y14, dO y15, dO y16, dO y17, dO y18, some (.dat ((eT eI) st.1)), some (.dat ((eT eI) st.2)), dO y21, dO y22, none]) (fun (b : Bool) => Px.Slot.dat (eB b)) (fun x_3 st => F_law_l3 (drawF g) z69.2 j_word v66 x_3 st.1 st.2) (es_cons (e_draw hG rfl (e_con) rfl hz69) (es_nil)) (it_rng1 hv70) (by decide) ⟨y0, y2, y3, y4, y6, y7, y8, none, y13, y14, y15, y16, y17, y18, y21, y22, rfl⟩ (fun x_3 st r ρ' hR hx => ?_) ho76 (fun s77 ρ' e hR => ?_) (fun b ρ' e => ?_)
  · obtain ⟨y0, y2, y3, y4, y6, y7, y8, y10, y13, y14, y15, y16, y17, y18, y21, y22, rfl⟩ := hR
    refine ⟨_, rfl, ?_⟩
    exact x_mono (fun fl ρ'' hk => ⟨same_rng, hk⟩) (x_law_l3 c_Substitution_init c_composed_substitution c_Substitution_put c_pair_of_way c_put_words c_lower_word c_tree_way c_sign_counts c_is_lower c_sign_table c_is_even_ring c_told_slope c_middle_word c_fixed_beginning c_is_primitive c_is_balanced_word c_least_turn c_turned hG (c_tape := z69.2) (c_word := j_word) (c_golden := v66) (x_3 := x_3) (s_a := st.1) (s_b := st.2) hx)
  · subst e
    obtain ⟨y0, y2, y3, y4, y6, y7, y8, y10, y13, y14, y15, y16, y17, y18, y21, y22, rfl⟩ := hR
    change X _ _ [dO y0, some (.own z69.2), dO y2, dO y3, dO y4, some (.dat ((eT eI) j_word)), dO y6, dO y7, dO y8, some (.dat (eK_Substitution v66)), dO y10, none, none, dO y13, dO y14, dO y15, dO y16, dO y17, dO y18, some (.dat ((eT eI) s77.1)), some (.dat ((eT eI) s77.2)), dO y21, dO y22, none] _
    obtain ⟨v78, hv78, h⟩ := bindS h
    obtain ⟨v79, hv79, h⟩ := bindS h
    obtain ⟨v80, hv80, h⟩ := bindS h
    refine x_set (d := (eT eI) v80) (e_call (ds := [eI v78, eI v79]) (s := Px.Slot.dat ((eT eI) v80)) (os_cons (o_ex (e_prim (os_cons (o_slot rfl) (os_cons (o_ex (e_con)) os_nil)) rfl (pIxT (e := eI) hv78))) (os_cons (o_ex (e_prim (os_cons (o_slot rfl) (os_cons (o_ex (e_con)) os_nil)) rfl (pIxT (e := eI) hv79))) os_nil)) (c_middle_word hv80)) ?_
    change X _ _ [dO y0, some (.own z69.2), dO y2, dO y3, dO y4, some (.dat ((eT eI) j_word)), dO y6, dO y7, dO y8, some (.dat (eK_Substitution v66)), dO y10, some (.dat ((eT eI) v80)), none, dO y13, dO y14, dO y15, dO y16, dO y17, dO y18, some (.dat ((eT eI) s77.1)), some (.dat ((eT eI) s77.2)), dO y21, dO y22, none] _
    obtain ⟨v81, hv81, h⟩ := bindS h
    obtain ⟨v82, hv82, h⟩ := bindS h
    obtain ⟨v87, hv87, h⟩ := bindS h
    refine x_ite (t_bop (c_or (t_val (o_ex (e_prim (os_cons (o_ex (e_call (ds := [eK_Substitution v66, eI ((0 : Int)), eI ((1 : Int)), eI (((v80.length : Nat) : Int))]) (s := Px.Slot.dat ((eT eI) v81)) (os_cons (o_ex (e_var rfl)) (os_cons (o_ex (e_con)) (os_cons (o_ex (e_con)) (os_cons (o_ex (e_prim (os_cons (o_slot rfl) os_nil) rfl (pLenT (e := eI)))) os_nil)))) (c_fixed_beginning hv81))) (os_cons (o_slot rfl) os_nil)) rfl (pNeT (xs := v81) (ys := v80) hv82))) rfl rfl) (fun w h => by
      obtain ⟨v83, hv83, h⟩ := bindS h
      obtain ⟨v86, hv86, h⟩ := bindS h
      cases h
      exact c_or (t_not (t_val (o_ex (e_call (ds := [eK_Substitution v66]) (s := Px.Slot.dat (eB v83)) (os_cons (o_ex (e_var rfl)) os_nil) (c_is_primitive hv83))) rfl rfl)) (fun w h => by
      obtain ⟨v84, hv84, h⟩ := bindS h
      obtain ⟨v85, hv85, h⟩ := bindS h
      cases h
      exact c_one (t_val (o_ex (e_prim (os_cons (o_ex (e_call (ds := [(eT eI) v84]) (s := Px.Slot.dat (eB v85)) (os_cons (o_ex (e_call (ds := [eK_Substitution v66, eI ((0 : Int)), eI ((1 : Int)), eI ((30 : Int))]) (s := Px.Slot.dat ((eT eI) v84)) (os_cons (o_ex (e_var rfl)) (os_cons (o_ex (e_con)) (os_cons (o_ex (e_con)) (os_cons (o_ex (e_con)) os_nil)))) (c_fixed_beginning hv84))) os_nil) (c_is_balanced_word hv85))) (os_cons (o_ex (e_con)) os_nil)) rfl (pIsNotB))) rfl rfl)) hv86) hv87)) (fun hc93 => ?_) (fun hc93 => ?_)
    · rw [if_pos hc93] at h
      simp only [List.cons_append, List.nil_append]
      refine x_ret (d := Px.Slot.dat (eB false)) (v_con) ?_
      cases h
      exact rfl
    · rw [if_neg (by rw [hc93]; exact Bool.false_ne_true)] at h
      simp only [List.cons_append, List.nil_append]
      obtain ⟨z88, hz88, h⟩ := bindS h
      obtain ⟨a89, ha89, h⟩ := bindS h
      have ha89 := Option.some.inj ha89
      refine x_set (d := eI a89) (ev_eq (e_draw hG rfl (e_prim (os_cons (o_slot rfl) os_nil) rfl (pLenT (e := eI))) rfl hz88) (congrArg eI ha89)) ?_
      change X _ _ [dO y0, some (.own z88.2), dO y2, dO y3, dO y4, some (.dat ((eT eI) j_word)), dO y6, dO y7, dO y8, some (.dat (eK_Substitution v66)), dO y10, some (.dat ((eT eI) v80)), some (.dat (eI a89)), dO y13, dO y14, dO y15, dO y16, dO y17, dO y18, some (.dat ((eT eI) s77.1)), some (.dat ((eT eI) s77.2)), dO y21, dO y22, none] _
      obtain ⟨v90, hv90, h⟩ := bindS h
      obtain ⟨v91, hv91, h⟩ := bindS h
      obtain ⟨v92, hv92, h⟩ := bindS h
      refine x_ret (d := Px.Slot.dat (eB v92)) (v_prim (e_prim (os_cons (o_ex (e_call (ds := [(eT eI) v90]) (s := Px.Slot.dat ((eT eI) v91)) (os_cons (o_ex (e_call (ds := [(eT eI) j_word, eI a89]) (s := Px.Slot.dat ((eT eI) v90)) (os_cons (o_ex (e_var rfl)) (os_cons (o_ex (e_var rfl)) os_nil)) (c_turned hv90))) os_nil) (c_least_turn hv91))) (os_cons (o_slot rfl) os_nil)) rfl (pEqT (xs := v91) (ys := j_word) hv92)) rfl) ?_
      cases h
      exact rfl
  · subst e
    cases h
    exact rfl
def F_law (nx : List D → Int → Option (Int × List D)) (p_script : List Int) : Option Bool :=
  (F_Substitution_init ([[(0 : Int)], [(0 : Int), (1 : Int)]])).bind fun v1 =>
  (F_Substitution_init ([[(0 : Int), (1 : Int)], [(1 : Int)]])).bind fun v2 =>
  (nx ([((eL eI) p_script), (eI ((0 : Int))), (eI ((0 : Int))), (eI ((86 : Int)))]) ((7 : Int))).bind fun z3 =>
  (rngZ 0 z3.1).bind fun v4 =>
  (compS (fun (x5 : Int) (st6 : List D) => (nx st6 ((2 : Int))).bind fun z7 => some (some z7.1, z7.2)) v4 z3.2).bind fun q8 =>
  (shortL q8.1).bind fun v9 =>
  (F_Substitution_init ([[(0 : Int)], [(1 : Int)]])).bind fun v10 =>
  (forS (fun x_1 st => F_law_l1 nx p_script q8.2 v9 v1 v2 x_1 st) v9 v10).bind fun o12 =>
  match o12 with
  | .ret b => some b
  | .nx s13 =>
    (F_Substitution_put s13 ([(0 : Int), (1 : Int)])).bind fun v14 =>
    (F_pair_of_way v9).bind fun v15 =>
    (F_put_words v9).bind fun v16 =>
    (eqT v14 v16).bind fun v17 =>
    (if (!v17) = true then some true else (atI v15 ((0 : Int))).bind fun v18 => (atI v15 ((1 : Int))).bind fun v19 => (F_lower_word v18 v19).bind fun v20 => (eqT v14 v20).bind fun v21 => (if (!v21) = true then some true else (atI v15 ((0 : Int))).bind fun v22 => (atI v15 ((1 : Int))).bind fun v23 => (F_tree_way v22 v23).bind fun v24 => (eqT v24 v9).bind fun v25 => (if (!v25) = true then some true else (F_sign_counts v14 ((2 : Int))).bind fun v26 => (eqT v26 v15).bind fun v27 => some ((!v27))).bind fun v28 => some v28).bind fun v29 => some v29).bind fun v30 =>
    if v30 = true then
      some false
    else
      (atI s13 ((0 : Int))).bind fun v31 =>
      (F_is_lower v31).bind fun v32 =>
      (if (!decide (v32 = true)) = true then some true else (atI s13 ((1 : Int))).bind fun v33 => (F_is_lower v33).bind fun v34 => (if (!decide (v34 = true)) = true then some true else (atI s13 ((0 : Int))).bind fun v35 => (atI s13 ((1 : Int))).bind fun v36 => (catZ v35 v36).bind fun v37 => (eqT v37 v14).bind fun v38 => some ((!v38))).bind fun v39 => some v39).bind fun v40 =>
      if v40 = true then
        some false
      else
        (F_sign_table s13).bind fun v41 =>
        (atI v41 ((0 : Int))).bind fun v42 =>
        (atI v42 ((0 : Int))).bind fun v43 =>
        (atI v41 ((1 : Int))).bind fun v44 =>
        (atI v44 ((1 : Int))).bind fun v45 =>
        (binI .Mult v43 v45).bind fun v46 =>
        (atI v41 ((0 : Int))).bind fun v47 =>
        (atI v47 ((1 : Int))).bind fun v48 =>
        (atI v41 ((1 : Int))).bind fun v49 =>
        (atI v49 ((0 : Int))).bind fun v50 =>
        (binI .Mult v48 v50).bind fun v51 =>
        if (!decide ((v46 - v51) = (1 : Int))) = true then
          some false
        else
          (nx q8.2 ((5 : Int))).bind fun z52 =>
          (nx z52.2 ((5 : Int))).bind fun z53 =>
          (some (((1 : Int) + z52.1))).bind fun a54 =>
          (some (((1 : Int) + z53.1))).bind fun a55 =>
          (rngZ 0 ((a54 + a55))).bind fun v56 =>
          (compS (fun (x57 : Int) (st58 : List D) => (nx st58 ((2 : Int))).bind fun z59 => some (some z59.1, z59.2)) v56 z53.2).bind fun q60 =>
          (shortL q60.1).bind fun v61 =>
          (F_Substitution_put s13 v61).bind fun v62 =>
          (F_is_even_ring v62).bind fun v63 =>
          (F_is_even_ring v61).bind fun v64 =>
          if (!decide (v63 = v64)) = true then
            some false
          else
            (F_is_even_ring v61).bind fun v65 =>
            if v65 = true then
              (F_told_slope v61).bind fun v94 =>
              (F_Substitution_put s13 v61).bind fun v95 =>
              (F_sign_counts v95 ((2 : Int))).bind fun v96 =>
              (v94).bind fun u97 =>
              (atI u97 ((1 : Int))).bind fun v98 =>
              (if (decide ((0 : Int) < v98)) = true then (atI u97 ((1 : Int))).bind fun v99 => (binI .FloorDiv v61.sum v99).bind fun v100 => some v100 else  some (((v61.length : Nat) : Int))).bind fun v101 =>
              (F_told_slope v95).bind fun v102 =>
              (atI v96 ((0 : Int))).bind fun v103 =>
              (binI .FloorDiv v103 v101).bind fun v104 =>
              (atI v96 ((1 : Int))).bind fun v105 =>
              (binI .FloorDiv v105 v101).bind fun v106 =>
              (eqF ((eO (eT eI)) v102) ((eT eI) ([v104, v106]))).bind fun v107 =>
              if (!v107) = true then
                some false
              else
                F_law_j2 nx q60.2 v14
            else
              F_law_j2 nx q60.2 v14
theorem x_law {G : Sig} (c_Substitution_init : ∀ {p0 : List (List Int)} {r : (List (List Int))}, F_Substitution_init p0 = some r → makeR G "Substitution" [(eL (eT eI)) p0] = .ok (eK_Substitution r)) (c_composed_substitution : ∀ {p0 : (List (List Int))} {p1 : (List (List Int))} {r : (List (List Int))}, F_composed_substitution p0 p1 = some r → callV G "composed_substitution" [eK_Substitution p0, eK_Substitution p1] = .ok (Px.Slot.dat (eK_Substitution r))) (c_Substitution_put : ∀ {p0 : (List (List Int))} {p1 : List Int} {r : List Int}, F_Substitution_put p0 p1 = some r → methR G (eK_Substitution p0) "put" [(eT eI) p1] = .ok (Px.Slot.dat ((eT eI) r))) (c_pair_of_way : ∀ {p0 : List Int} {r : List Int}, F_pair_of_way p0 = some r → callV G "pair_of_way" [(eT eI) p0] = .ok (Px.Slot.dat ((eT eI) r))) (c_put_words : ∀ {p0 : List Int} {r : List Int}, F_put_words p0 = some r → callV G "put_words" [(eT eI) p0] = .ok (Px.Slot.dat ((eT eI) r))) (c_lower_word : ∀ {p0 : Int} {p1 : Int} {r : List Int}, F_lower_word p0 p1 = some r → callV G "lower_word" [eI p0, eI p1] = .ok (Px.Slot.dat ((eT eI) r))) (c_tree_way : ∀ {p0 : Int} {p1 : Int} {r : List Int}, F_tree_way p0 p1 = some r → callV G "tree_way" [eI p0, eI p1] = .ok (Px.Slot.dat ((eT eI) r))) (c_sign_counts : ∀ {p0 : List Int} {p1 : Int} {r : List Int}, F_sign_counts p0 p1 = some r → callV G "sign_counts" [(eT eI) p0, eI p1] = .ok (Px.Slot.dat ((eT eI) r))) (c_is_lower : ∀ {p0 : List Int} {r : Bool}, F_is_lower p0 = some r → callV G "is_lower" [(eT eI) p0] = .ok (Px.Slot.dat (eB r))) (c_sign_table : ∀ {p0 : (List (List Int))} {r : List (List Int)}, F_sign_table p0 = some r → callV G "sign_table" [eK_Substitution p0] = .ok (Px.Slot.dat ((eT (eT eI)) r))) (c_is_even_ring : ∀ {p0 : List Int} {r : Bool}, F_is_even_ring p0 = some r → callV G "is_even_ring" [(eT eI) p0] = .ok (Px.Slot.dat (eB r))) (c_told_slope : ∀ {p0 : List Int} {r : Option (List Int)}, F_told_slope p0 = some r → callV G "told_slope" [(eT eI) p0] = .ok (Px.Slot.dat ((eO (eT eI)) r))) (c_middle_word : ∀ {p0 : Int} {p1 : Int} {r : List Int}, F_middle_word p0 p1 = some r → callV G "middle_word" [eI p0, eI p1] = .ok (Px.Slot.dat ((eT eI) r))) (c_fixed_beginning : ∀ {p0 : (List (List Int))} {p1 : Int} {p2 : Int} {p3 : Int} {r : List Int}, F_fixed_beginning p0 p1 p2 p3 = some r → callV G "fixed_beginning" [eK_Substitution p0, eI p1, eI p2, eI p3] = .ok (Px.Slot.dat ((eT eI) r))) (c_is_primitive : ∀ {p0 : (List (List Int))} {r : Bool}, F_is_primitive p0 = some r → callV G "is_primitive" [eK_Substitution p0] = .ok (Px.Slot.dat (eB r))) (c_is_balanced_word : ∀ {p0 : List Int} {r : Bool}, F_is_balanced_word p0 = some r → callV G "is_balanced_word" [(eT eI) p0] = .ok (Px.Slot.dat (eB r))) (c_least_turn : ∀ {p0 : List Int} {r : List Int}, F_least_turn p0 = some r → callV G "least_turn" [(eT eI) p0] = .ok (Px.Slot.dat ((eT eI) r))) (c_turned : ∀ {p0 : List Int} {p1 : Int} {r : List Int}, F_turned p0 p1 = some r → callV G "turned" [(eT eI) p0, eI p1] = .ok (Px.Slot.dat ((eT eI) r))) {g : Gfun} (hG : G "_law_next" = some g) {p_script : List Int} {r : Bool} (h : F_law (drawF g) p_script = some r) : X G d_law.body [some (.dat ((eL eI) p_script)), none, none, none, none, none, none, none, none, none, none, none, none, none, none, none, none, none, none, none, none, none, none, none] (fun fl _ => match fl with | .nx => Px.Slot.dat (eB r) = Px.Slot.dat .non | .ret s => Px.Slot.dat (eB r) = s | _ => False) := by
  rw [d_law]
  unfold F_law at h
  refine x_seto (v_lst (e_lst (es_cons (e_prim (os_cons (o_slot rfl) os_nil) rfl (pLstL (e := eI))) (es_cons (e_con) (es_cons (e_con) (es_cons (e_con) (es_nil))))))) ?_
  change X _ _ [some (.dat ((eL eI) p_script)), some (.own ([((eL eI) p_script), (eI ((0 : Int))), (eI ((0 : Int))), (eI ((86 : Int)))])), none, none, none, none, none, none, none, none, none, none, none, none, none, none, none, none, none, none, none, none, none, none] _
  obtain ⟨v1, hv1, h⟩ := bindS h
  obtain ⟨v2, hv2, h⟩ := bindS h
  refine x_par (d := eK_Substitution v1) (c := eK_Substitution v2) (e_make (es_cons (e_lst (es_cons (e_tup (es_cons (e_con) (es_nil))) (es_cons (e_tup (es_cons (e_con) (es_cons (e_con) (es_nil)))) (es_nil)))) (es_nil)) (c_Substitution_init hv1)) (e_make (es_cons (e_lst (es_cons (e_tup (es_cons (e_con) (es_cons (e_con) (es_nil)))) (es_cons (e_tup (es_cons (e_con) (es_nil))) (es_nil)))) (es_nil)) (c_Substitution_init hv2)) ?_
  change X _ _ [some (.dat ((eL eI) p_script)), some (.own ([((eL eI) p_script), (eI ((0 : Int))), (eI ((0 : Int))), (eI ((86 : Int)))])), none, none, none, none, none, none, none, none, none, none, none, some (.dat (eK_Substitution v1)), some (.dat (eK_Substitution v2)), none, none, none, none, none, none, none, none, none] _
  obtain ⟨z3, hz3, h⟩ := bindS h
  obtain ⟨v4, hv4, h⟩ := bindS h
  obtain ⟨q8, hq8, h⟩ := bindS h
  obtain ⟨v9, hv9, h⟩ := bindS h
  refine x_set (d := (eT eI) v9) (e_prim (os_cons (o_ex (e_draws (ex := eI) (ey := eI) (fun (t : List D) => [some (.dat ((eL eI) p_script)), some (.own t), none, none, none, none, none, none, none, none, none, none, none, some (.dat (eK_Substitution v1)), some (.dat (eK_Substitution v2)), none, none, none, none, none, none, none, none, none]) _ (es_cons (e_draw hG rfl (e_con) rfl hz3) (es_nil)) (it_rng1 hv4) rfl rfl (fun x5 st6 r s' h => by
      obtain ⟨z7, hz7, h⟩ := bindS h
      cases h
      exact ⟨_, _, _, rfl, c_nil, rfl, _, e_draw hG rfl (e_con) rfl hz7, same_rng, rfl⟩) hq8 hv9 rfl)) os_nil) rfl (pTupL (e := eI))) ?_
  change X _ _ [some (.dat ((eL eI) p_script)), some (.own q8.2), some (.dat ((eT eI) v9)), none, none, none, none, none, none, none, none, none, none, some (.dat (eK_Substitution v1)), some (.dat (eK_Substitution v2)), none, none, none, none, none, none, none, none, none] _
  obtain ⟨v10, hv10, h⟩ := bindS h
  refine x_set (d := eK_Substitution v10) (e_make (es_cons (e_lst (es_cons (e_tup (es_cons (e_con) (es_nil))) (es_cons (e_tup (es_cons (e_con) (es_nil))) (es_nil)))) (es_nil)) (c_Substitution_init hv10)) ?_
  change X _ _ [some (.dat ((eL eI) p_script)), some (.own q8.2), some (.dat ((eT eI) v9)), some (.dat (eK_Substitution v10)), none, none, none, none, none, none, none, none, none, some (.dat (eK_Substitution v1)), some (.dat (eK_Substitution v2)), none, none, none, none, none, none, none, none, none] _
  obtain ⟨o12, ho12, h⟩ := bindS h
  refine x_forK (ex := eI) (fun (st : ((List (List Int)))) ρ' => ∃ y4, ρ' = [some (.dat ((eL eI) p_script)), some (.own q8.2), some (.dat ((eT eI) v9)), some (.dat (eK_Substitution st)), dO y4, none, none, none, none, none, none, none, none, some (.dat (eK_Substitution v1)), some (.dat (eK_Substitution v2)), none, none, none, none, none, none, none, none, none]) (fun (b : Bool) => Px.Slot.dat (eB b)) (fun x_1 st => F_law_l1 (drawF g) p_script q8.2 v9 v1 v2 x_1 st) (es_cons (e_var rfl) es_nil) (it_tup) (by decide) ⟨none, rfl⟩ (fun x_1 st r ρ' hR hx => ?_) ho12 (fun s13 ρ' e hR => ?_) (fun b ρ' e => ?_)
  · obtain ⟨y4, rfl⟩ := hR
    refine ⟨_, rfl, ?_⟩
    exact x_mono (fun fl ρ'' hk => ⟨same_seq, hk⟩) (x_law_l1 c_Substitution_init c_composed_substitution c_Substitution_put c_pair_of_way c_put_words c_lower_word c_tree_way c_sign_counts c_is_lower c_sign_table c_is_even_ring c_told_slope c_middle_word c_fixed_beginning c_is_primitive c_is_balanced_word c_least_turn c_turned hG (c_script := p_script) (c_tape := q8.2) (c_way := v9) (c_left := v1) (c_right := v2) (x_1 := x_1) (s_whole := st) hx)
  · subst e
    obtain ⟨y4, rfl⟩ := hR
    change X _ _ [some (.dat ((eL eI) p_script)), some (.own q8.2), some (.dat ((eT eI) v9)), some (.dat (eK_Substitution s13)), dO y4, none, none, none, none, none, none, none, none, some (.dat (eK_Substitution v1)), some (.dat (eK_Substitution v2)), none, none, none, none, none, none, none, none, none] _
    obtain ⟨v14, hv14, h⟩ := bindS h
    refine x_set (d := (eT eI) v14) (e_meth (s := Px.Slot.dat ((eT eI) v14)) (e_var rfl) (es_cons (e_tup (es_cons (e_con) (es_cons (e_con) (es_nil)))) (es_nil)) (c_Substitution_put hv14)) ?_
    change X _ _ [some (.dat ((eL eI) p_script)), some (.own q8.2), some (.dat ((eT eI) v9)), some (.dat (eK_Substitution s13)), dO y4, some (.dat ((eT eI) v14)), none, none, none, none, none, none, none, some (.dat (eK_Substitution v1)), some (.dat (eK_Substitution v2)), none, none, none, none, none, none, none, none, none] _
    obtain ⟨v15, hv15, h⟩ := bindS h
    refine x_set (d := (eT eI) v15) (e_call (ds := [(eT eI) v9]) (s := Px.Slot.dat ((eT eI) v15)) (os_cons (o_ex (e_var rfl)) os_nil) (c_pair_of_way hv15)) ?_
    change X _ _ [some (.dat ((eL eI) p_script)), some (.own q8.2), some (.dat ((eT eI) v9)), some (.dat (eK_Substitution s13)), dO y4, some (.dat ((eT eI) v14)), some (.dat ((eT eI) v15)), none, none, none, none, none, none, some (.dat (eK_Substitution v1)), some (.dat (eK_Substitution v2)), none, none, none, none, none, none, none, none, none] _
    obtain ⟨v16, hv16, h⟩ := bindS h
    obtain ⟨v17, hv17, h⟩ := bindS h
    obtain ⟨v30, hv30, h⟩ := bindS h
    refine x_ite (t_bop (c_or (t_val (o_ex (e_prim (os_cons (o_slot rfl) (os_cons (o_ex (e_call (ds := [(eT eI) v9]) (s := Px.Slot.dat ((eT eI) v16)) (os_cons (o_ex (e_var rfl)) os_nil) (c_put_words hv16))) os_nil)) rfl (pNeT (xs := v14) (ys := v16) hv17))) rfl rfl) (fun w h => by
      obtain ⟨v18, hv18, h⟩ := bindS h
      obtain ⟨v19, hv19, h⟩ := bindS h
      obtain ⟨v20, hv20, h⟩ := bindS h
      obtain ⟨v21, hv21, h⟩ := bindS h
      obtain ⟨v29, hv29, h⟩ := bindS h
      cases h
      exact c_or (t_val (o_ex (e_prim (os_cons (o_slot rfl) (os_cons (o_ex (e_call (ds := [eI v18, eI v19]) (s := Px.Slot.dat ((eT eI) v20)) (os_cons (o_ex (e_prim (os_cons (o_slot rfl) (os_cons (o_ex (e_con)) os_nil)) rfl (pIxT (e := eI) hv18))) (os_cons (o_ex (e_prim (os_cons (o_slot rfl) (os_cons (o_ex (e_con)) os_nil)) rfl (pIxT (e := eI) hv19))) os_nil)) (c_lower_word hv20))) os_nil)) rfl (pNeT (xs := v14) (ys := v20) hv21))) rfl rfl) (fun w h => by
      obtain ⟨v22, hv22, h⟩ := bindS h
      obtain ⟨v23, hv23, h⟩ := bindS h
      obtain ⟨v24, hv24, h⟩ := bindS h
      obtain ⟨v25, hv25, h⟩ := bindS h
      obtain ⟨v28, hv28, h⟩ := bindS h
      cases h
      exact c_or (t_val (o_ex (e_prim (os_cons (o_ex (e_call (ds := [eI v22, eI v23]) (s := Px.Slot.dat ((eT eI) v24)) (os_cons (o_ex (e_prim (os_cons (o_slot rfl) (os_cons (o_ex (e_con)) os_nil)) rfl (pIxT (e := eI) hv22))) (os_cons (o_ex (e_prim (os_cons (o_slot rfl) (os_cons (o_ex (e_con)) os_nil)) rfl (pIxT (e := eI) hv23))) os_nil)) (c_tree_way hv24))) (os_cons (o_slot rfl) os_nil)) rfl (pNeT (xs := v24) (ys := v9) hv25))) rfl rfl) (fun w h => by
      obtain ⟨v26, hv26, h⟩ := bindS h
      obtain ⟨v27, hv27, h⟩ := bindS h
      cases h
      exact c_one (t_val (o_ex (e_prim (os_cons (o_ex (e_call (ds := [(eT eI) v14, eI ((2 : Int))]) (s := Px.Slot.dat ((eT eI) v26)) (os_cons (o_ex (e_var rfl)) (os_cons (o_ex (e_con)) os_nil)) (c_sign_counts hv26))) (os_cons (o_slot rfl) os_nil)) rfl (pNeT (xs := v26) (ys := v15) hv27))) rfl rfl)) hv28) hv29) hv30)) (fun hc113 => ?_) (fun hc113 => ?_)
    · rw [if_pos hc113] at h
      simp only [List.cons_append, List.nil_append]
      refine x_ret (d := Px.Slot.dat (eB false)) (v_con) ?_
      cases h
      exact rfl
    · rw [if_neg (by rw [hc113]; exact Bool.false_ne_true)] at h
      simp only [List.cons_append, List.nil_append]
      obtain ⟨v31, hv31, h⟩ := bindS h
      obtain ⟨v32, hv32, h⟩ := bindS h
      obtain ⟨v40, hv40, h⟩ := bindS h
      refine x_ite (t_bop (c_or (t_val (o_ex (e_prim (os_cons (o_ex (e_call (ds := [(eT eI) v31]) (s := Px.Slot.dat (eB v32)) (os_cons (o_ex (e_prim (os_cons (o_ex (e_prim (os_cons (o_slot rfl) os_nil) rfl (f_Substitution_words))) (os_cons (o_ex (e_con)) os_nil)) rfl (pIxT (e := (eT eI)) hv31))) os_nil) (c_is_lower hv32))) (os_cons (o_ex (e_con)) os_nil)) rfl (pIsNotB))) rfl rfl) (fun w h => by
      obtain ⟨v33, hv33, h⟩ := bindS h
      obtain ⟨v34, hv34, h⟩ := bindS h
      obtain ⟨v39, hv39, h⟩ := bindS h
      cases h
      exact c_or (t_val (o_ex (e_prim (os_cons (o_ex (e_call (ds := [(eT eI) v33]) (s := Px.Slot.dat (eB v34)) (os_cons (o_ex (e_prim (os_cons (o_ex (e_prim (os_cons (o_slot rfl) os_nil) rfl (f_Substitution_words))) (os_cons (o_ex (e_con)) os_nil)) rfl (pIxT (e := (eT eI)) hv33))) os_nil) (c_is_lower hv34))) (os_cons (o_ex (e_con)) os_nil)) rfl (pIsNotB))) rfl rfl) (fun w h => by
      obtain ⟨v35, hv35, h⟩ := bindS h
      obtain ⟨v36, hv36, h⟩ := bindS h
      obtain ⟨v37, hv37, h⟩ := bindS h
      obtain ⟨v38, hv38, h⟩ := bindS h
      cases h
      exact c_one (t_val (o_ex (e_prim (os_cons (o_ex (e_prim (os_cons (o_ex (e_prim (os_cons (o_ex (e_prim (os_cons (o_slot rfl) os_nil) rfl (f_Substitution_words))) (os_cons (o_ex (e_con)) os_nil)) rfl (pIxT (e := (eT eI)) hv35))) (os_cons (o_ex (e_prim (os_cons (o_ex (e_prim (os_cons (o_slot rfl) os_nil) rfl (f_Substitution_words))) (os_cons (o_ex (e_con)) os_nil)) rfl (pIxT (e := (eT eI)) hv36))) os_nil)) rfl (pCatT (e := eI) hv37))) (os_cons (o_slot rfl) os_nil)) rfl (pNeT (xs := v37) (ys := v14) hv38))) rfl rfl)) hv39) hv40)) (fun hc112 => ?_) (fun hc112 => ?_)
      · rw [if_pos hc112] at h
        simp only [List.cons_append, List.nil_append]
        refine x_ret (d := Px.Slot.dat (eB false)) (v_con) ?_
        cases h
        exact rfl
      · rw [if_neg (by rw [hc112]; exact Bool.false_ne_true)] at h
        simp only [List.cons_append, List.nil_append]
        obtain ⟨v41, hv41, h⟩ := bindS h
        refine x_set (d := (eT (eT eI)) v41) (e_call (ds := [eK_Substitution s13]) (s := Px.Slot.dat ((eT (eT eI)) v41)) (os_cons (o_ex (e_var rfl)) os_nil) (c_sign_table hv41)) ?_
        change X _ _ [some (.dat ((eL eI) p_script)), some (.own q8.2), some (.dat ((eT eI) v9)), some (.dat (eK_Substitution s13)), dO y4, some (.dat ((eT eI) v14)), some (.dat ((eT eI) v15)), some (.dat ((eT (eT eI)) v41)), none, none, none, none, none, some (.dat (eK_Substitution v1)), some (.dat (eK_Substitution v2)), none, none, none, none, none, none, none, none, none] _
        obtain ⟨v42, hv42, h⟩ := bindS h
        obtain ⟨v43, hv43, h⟩ := bindS h
        obtain ⟨v44, hv44, h⟩ := bindS h
        obtain ⟨v45, hv45, h⟩ := bindS h
        obtain ⟨v46, hv46, h⟩ := bindS h
        obtain ⟨v47, hv47, h⟩ := bindS h
        obtain ⟨v48, hv48, h⟩ := bindS h
        obtain ⟨v49, hv49, h⟩ := bindS h
        obtain ⟨v50, hv50, h⟩ := bindS h
        obtain ⟨v51, hv51, h⟩ := bindS h
        refine x_ite (t_val (o_ex (e_prim (os_cons (o_ex (e_prim (os_cons (o_ex (e_prim (os_cons (o_ex (e_prim (os_cons (o_ex (e_prim (os_cons (o_slot rfl) (os_cons (o_ex (e_con)) os_nil)) rfl (pIxT (e := (eT eI)) hv42))) (os_cons (o_ex (e_con)) os_nil)) rfl (pIxT (e := eI) hv43))) (os_cons (o_ex (e_prim (os_cons (o_ex (e_prim (os_cons (o_slot rfl) (os_cons (o_ex (e_con)) os_nil)) rfl (pIxT (e := (eT eI)) hv44))) (os_cons (o_ex (e_con)) os_nil)) rfl (pIxT (e := eI) hv45))) os_nil)) rfl (pI hv46))) (os_cons (o_ex (e_prim (os_cons (o_ex (e_prim (os_cons (o_ex (e_prim (os_cons (o_slot rfl) (os_cons (o_ex (e_con)) os_nil)) rfl (pIxT (e := (eT eI)) hv47))) (os_cons (o_ex (e_con)) os_nil)) rfl (pIxT (e := eI) hv48))) (os_cons (o_ex (e_prim (os_cons (o_ex (e_prim (os_cons (o_slot rfl) (os_cons (o_ex (e_con)) os_nil)) rfl (pIxT (e := (eT eI)) hv49))) (os_cons (o_ex (e_con)) os_nil)) rfl (pIxT (e := eI) hv50))) os_nil)) rfl (pI hv51))) os_nil)) rfl (p_sub))) (os_cons (o_ex (e_con)) os_nil)) rfl (p_ne))) rfl rfl) (fun hc111 => ?_) (fun hc111 => ?_)
        · rw [if_pos hc111] at h
          simp only [List.cons_append, List.nil_append]
          refine x_ret (d := Px.Slot.dat (eB false)) (v_con) ?_
          cases h
          exact rfl
        · rw [if_neg (by rw [hc111]; exact Bool.false_ne_true)] at h
          simp only [List.cons_append, List.nil_append]
          obtain ⟨z52, hz52, h⟩ := bindS h
          obtain ⟨z53, hz53, h⟩ := bindS h
          obtain ⟨a54, ha54, h⟩ := bindS h
          have ha54 := Option.some.inj ha54
          obtain ⟨a55, ha55, h⟩ := bindS h
          have ha55 := Option.some.inj ha55
          refine x_par (d := eI a54) (c := eI a55) (ev_eq (e_prim (os_cons (o_ex (e_con)) (os_cons (o_ex (e_draw hG rfl (e_con) rfl hz52)) os_nil)) rfl (p_add)) (congrArg eI ha54)) (ev_eq (e_prim (os_cons (o_ex (e_con)) (os_cons (o_ex (e_draw hG rfl (e_con) rfl hz53)) os_nil)) rfl (p_add)) (congrArg eI ha55)) ?_
          change X _ _ [some (.dat ((eL eI) p_script)), some (.own z53.2), some (.dat ((eT eI) v9)), some (.dat (eK_Substitution s13)), dO y4, some (.dat ((eT eI) v14)), some (.dat ((eT eI) v15)), some (.dat ((eT (eT eI)) v41)), none, none, none, none, none, some (.dat (eK_Substitution v1)), some (.dat (eK_Substitution v2)), some (.dat (eI a54)), some (.dat (eI a55)), none, none, none, none, none, none, none] _
          obtain ⟨v56, hv56, h⟩ := bindS h
          obtain ⟨q60, hq60, h⟩ := bindS h
          obtain ⟨v61, hv61, h⟩ := bindS h
          refine x_set (d := (eT eI) v61) (e_prim (os_cons (o_ex (e_draws (ex := eI) (ey := eI) (fun (t : List D) => [some (.dat ((eL eI) p_script)), some (.own t), some (.dat ((eT eI) v9)), some (.dat (eK_Substitution s13)), dO y4, some (.dat ((eT eI) v14)), some (.dat ((eT eI) v15)), some (.dat ((eT (eT eI)) v41)), none, none, none, none, none, some (.dat (eK_Substitution v1)), some (.dat (eK_Substitution v2)), some (.dat (eI a54)), some (.dat (eI a55)), none, none, none, none, none, none, none]) _ (es_cons (e_prim (os_cons (o_slot rfl) (os_cons (o_slot rfl) os_nil)) rfl (p_add)) (es_nil)) (it_rng1 hv56) rfl rfl (fun x57 st58 r s' h => by
      obtain ⟨z59, hz59, h⟩ := bindS h
      cases h
      exact ⟨_, _, _, rfl, c_nil, rfl, _, e_draw hG rfl (e_con) rfl hz59, same_rng, rfl⟩) hq60 hv61 rfl)) os_nil) rfl (pTupL (e := eI))) ?_
          change X _ _ [some (.dat ((eL eI) p_script)), some (.own q60.2), some (.dat ((eT eI) v9)), some (.dat (eK_Substitution s13)), dO y4, some (.dat ((eT eI) v14)), some (.dat ((eT eI) v15)), some (.dat ((eT (eT eI)) v41)), some (.dat ((eT eI) v61)), none, none, none, none, some (.dat (eK_Substitution v1)), some (.dat (eK_Substitution v2)), some (.dat (eI a54)), some (.dat (eI a55)), none, none, none, none, none, none, none] _
          obtain ⟨v62, hv62, h⟩ := bindS h
          obtain ⟨v63, hv63, h⟩ := bindS h
          obtain ⟨v64, hv64, h⟩ := bindS h
          refine x_ite (t_val (o_ex (e_prim (os_cons (o_ex (e_call (ds := [(eT eI) v62]) (s := Px.Slot.dat (eB v63)) (os_cons (o_ex (e_meth (s := Px.Slot.dat ((eT eI) v62)) (e_var rfl) (es_cons (e_var rfl) (es_nil)) (c_Substitution_put hv62))) os_nil) (c_is_even_ring hv63))) (os_cons (o_ex (e_call (ds := [(eT eI) v61]) (s := Px.Slot.dat (eB v64)) (os_cons (o_ex (e_var rfl)) os_nil) (c_is_even_ring hv64))) os_nil)) rfl (p_neb))) rfl rfl) (fun hc110 => ?_) (fun hc110 => ?_)
          · rw [if_pos hc110] at h
            simp only [List.cons_append, List.nil_append]
            refine x_ret (d := Px.Slot.dat (eB false)) (v_con) ?_
            cases h
            exact rfl
          · rw [if_neg (by rw [hc110]; exact Bool.false_ne_true)] at h
            simp only [List.cons_append, List.nil_append]
            obtain ⟨v65, hv65, h⟩ := bindS h
            refine x_ite (t_val (o_ex (e_call (ds := [(eT eI) v61]) (s := Px.Slot.dat (eB v65)) (os_cons (o_ex (e_var rfl)) os_nil) (c_is_even_ring hv65))) rfl rfl) (fun hc109 => ?_) (fun hc109 => ?_)
            · rw [if_pos hc109] at h
              simp only [List.cons_append, List.nil_append]
              obtain ⟨v94, hv94, h⟩ := bindS h
              obtain ⟨v95, hv95, h⟩ := bindS h
              refine x_par (d := (eO (eT eI)) v94) (c := (eT eI) v95) (e_call (ds := [(eT eI) v61]) (s := Px.Slot.dat ((eO (eT eI)) v94)) (os_cons (o_ex (e_var rfl)) os_nil) (c_told_slope hv94)) (e_meth (s := Px.Slot.dat ((eT eI) v95)) (e_var rfl) (es_cons (e_var rfl) (es_nil)) (c_Substitution_put hv95)) ?_
              change X _ _ [some (.dat ((eL eI) p_script)), some (.own q60.2), some (.dat ((eT eI) v9)), some (.dat (eK_Substitution s13)), dO y4, some (.dat ((eT eI) v14)), some (.dat ((eT eI) v15)), some (.dat ((eT (eT eI)) v41)), some (.dat ((eT eI) v61)), none, none, none, none, some (.dat (eK_Substitution v1)), some (.dat (eK_Substitution v2)), some (.dat (eI a54)), some (.dat (eI a55)), none, none, none, none, some (.dat ((eO (eT eI)) v94)), some (.dat ((eT eI) v95)), none] _
              obtain ⟨v96, hv96, h⟩ := bindS h
              refine x_set (d := (eT eI) v96) (e_call (ds := [(eT eI) v95, eI ((2 : Int))]) (s := Px.Slot.dat ((eT eI) v96)) (os_cons (o_ex (e_var rfl)) (os_cons (o_ex (e_con)) os_nil)) (c_sign_counts hv96)) ?_
              change X _ _ [some (.dat ((eL eI) p_script)), some (.own q60.2), some (.dat ((eT eI) v9)), some (.dat (eK_Substitution s13)), dO y4, some (.dat ((eT eI) v14)), some (.dat ((eT eI) v15)), some (.dat ((eT (eT eI)) v41)), some (.dat ((eT eI) v61)), none, none, none, none, some (.dat (eK_Substitution v1)), some (.dat (eK_Substitution v2)), some (.dat (eI a54)), some (.dat (eI a55)), some (.dat ((eT eI) v96)), none, none, none, some (.dat ((eO (eT eI)) v94)), some (.dat ((eT eI) v95)), none] _
              obtain ⟨u97, hu97, h_u97⟩ := bindS h
              subst hu97
              have h := h_u97
              obtain ⟨v98, hv98, h⟩ := bindS h
              obtain ⟨v101, hv101, h⟩ := bindS h
              refine x_set (d := eI v101) (e_ite (t_val (o_ex (e_prim (os_cons (o_ex (e_prim (os_cons (o_slot rfl) (os_cons (o_ex (e_con)) os_nil)) rfl (pIxT (e := eI) hv98))) (os_cons (o_ex (e_con)) os_nil)) rfl (p_gt))) rfl rfl) (fun ht => by
      rw [if_pos ht] at hv101
      have h := hv101
      obtain ⟨v99, hv99, h⟩ := bindS h
      obtain ⟨v100, hv100, h⟩ := bindS h
      cases h
      exact e_prim (os_cons (o_ex (e_prim (os_cons (o_slot rfl) os_nil) rfl (pSumT))) (os_cons (o_ex (e_prim (os_cons (o_slot rfl) (os_cons (o_ex (e_con)) os_nil)) rfl (pIxT (e := eI) hv99))) os_nil)) rfl (pI hv100)) (fun ht => by
      rw [if_neg (by rw [ht]; exact Bool.false_ne_true)] at hv101
      have h := hv101
      cases h
      exact e_prim (os_cons (o_slot rfl) os_nil) rfl (pLenT (e := eI)))) ?_
              change X _ _ [some (.dat ((eL eI) p_script)), some (.own q60.2), some (.dat ((eT eI) v9)), some (.dat (eK_Substitution s13)), dO y4, some (.dat ((eT eI) v14)), some (.dat ((eT eI) v15)), some (.dat ((eT (eT eI)) v41)), some (.dat ((eT eI) v61)), none, none, none, none, some (.dat (eK_Substitution v1)), some (.dat (eK_Substitution v2)), some (.dat (eI a54)), some (.dat (eI a55)), some (.dat ((eT eI) v96)), some (.dat (eI v101)), none, none, some (.dat ((eT eI) u97)), some (.dat ((eT eI) v95)), none] _
              obtain ⟨v102, hv102, h⟩ := bindS h
              obtain ⟨v103, hv103, h⟩ := bindS h
              obtain ⟨v104, hv104, h⟩ := bindS h
              obtain ⟨v105, hv105, h⟩ := bindS h
              obtain ⟨v106, hv106, h⟩ := bindS h
              obtain ⟨v107, hv107, h⟩ := bindS h
              refine x_ite (t_val (o_ex (e_prim (os_cons (o_ex (e_call (ds := [(eT eI) v95]) (s := Px.Slot.dat ((eO (eT eI)) v102)) (os_cons (o_ex (e_var rfl)) os_nil) (c_told_slope hv102))) (os_cons (o_ex (e_tup (es_cons (e_prim (os_cons (o_ex (e_prim (os_cons (o_slot rfl) (os_cons (o_ex (e_con)) os_nil)) rfl (pIxT (e := eI) hv103))) (os_cons (o_slot rfl) os_nil)) rfl (pI hv104)) (es_cons (e_prim (os_cons (o_ex (e_prim (os_cons (o_slot rfl) (os_cons (o_ex (e_con)) os_nil)) rfl (pIxT (e := eI) hv105))) (os_cons (o_slot rfl) os_nil)) rfl (pI hv106)) (es_nil))))) os_nil)) rfl (pNeD hv107))) rfl rfl) (fun hc108 => ?_) (fun hc108 => ?_)
              · rw [if_pos hc108] at h
                simp only [List.cons_append, List.nil_append]
                refine x_ret (d := Px.Slot.dat (eB false)) (v_con) ?_
                cases h
                exact rfl
              · rw [if_neg (by rw [hc108]; exact Bool.false_ne_true)] at h
                simp only [List.cons_append, List.nil_append]
                exact x_law_j2 c_Substitution_init c_composed_substitution c_Substitution_put c_pair_of_way c_put_words c_lower_word c_tree_way c_sign_counts c_is_lower c_sign_table c_is_even_ring c_told_slope c_middle_word c_fixed_beginning c_is_primitive c_is_balanced_word c_least_turn c_turned hG (j_tape := q60.2) (j_word := v14) (y0 := (some ((eL eI) p_script))) (y2 := (some ((eT eI) v9))) (y3 := (some (eK_Substitution s13))) (y4 := y4) (y6 := (some ((eT eI) v15))) (y7 := (some ((eT (eT eI)) v41))) (y8 := (some ((eT eI) v61))) (y13 := (some (eK_Substitution v1))) (y14 := (some (eK_Substitution v2))) (y15 := (some (eI a54))) (y16 := (some (eI a55))) (y17 := (some ((eT eI) v96))) (y18 := (some (eI v101))) (y21 := (some ((eT eI) u97))) (y22 := (some ((eT eI) v95))) h
            · rw [if_neg (by rw [hc109]; exact Bool.false_ne_true)] at h
              simp only [List.cons_append, List.nil_append]
              exact x_law_j2 c_Substitution_init c_composed_substitution c_Substitution_put c_pair_of_way c_put_words c_lower_word c_tree_way c_sign_counts c_is_lower c_sign_table c_is_even_ring c_told_slope c_middle_word c_fixed_beginning c_is_primitive c_is_balanced_word c_least_turn c_turned hG (j_tape := q60.2) (j_word := v14) (y0 := (some ((eL eI) p_script))) (y2 := (some ((eT eI) v9))) (y3 := (some (eK_Substitution s13))) (y4 := y4) (y6 := (some ((eT eI) v15))) (y7 := (some ((eT (eT eI)) v41))) (y8 := (some ((eT eI) v61))) (y13 := (some (eK_Substitution v1))) (y14 := (some (eK_Substitution v2))) (y15 := (some (eI a54))) (y16 := (some (eI a55))) (y17 := none) (y18 := none) (y21 := none) (y22 := none) h
  · subst e
    cases h
    exact rfl
theorem w_law {k : Nat} {p_script : List Int} {r : Bool} (h : F_law (drawF (runDef (sigOf defs (k + 4)) d_law_next)) p_script = some r) : callV (sigOf defs (k + 6)) "law" [(eL eI) p_script] = .ok (Px.Slot.dat (eB r)) :=
  callV_run fnd_law ⟨rfl, by decide⟩ (x_law (fun h => w_Substitution_init (k := k + 1) h) (fun h => w_composed_substitution (k := k + 0) h) (fun h => w_Substitution_put (k := k + 4) h) (fun h => w_pair_of_way (k := k + 4) h) (fun h => w_put_words (k := k + 4) h) (fun h => w_lower_word (k := k + 2) h) (fun h => w_tree_way (k := k + 2) h) (fun h => w_sign_counts (k := k + 4) h) (fun h => w_is_lower (k := k + 1) h) (fun h => w_sign_table (k := k + 4) h) (fun h => w_is_even_ring (k := k + 4) h) (fun h => w_told_slope (k := k + 1) h) (fun h => w_middle_word (k := k + 1) h) (fun h => w_fixed_beginning (k := k + 2) h) (fun h => w_is_primitive (k := k + 3) h) (fun h => w_is_balanced_word (k := k + 4) h) (fun h => w_least_turn (k := k + 3) h) (fun h => w_turned (k := k + 4) h) (g := runDef (sigOf defs (k + 4)) d_law_next) (by rw [show k + 5 = (k + 4) + 1 from rfl]; exact find_run fnd_law_next) h)
end LW

set_option Elab.async false
set_option linter.all false
set_option maxRecDepth 100000
set_option maxHeartbeats 2000000
/-! parts of rings -/
namespace Wn
open Tv
def P (f : Nat → Int) (j : Nat) : Nat → Int
  | 0 => 0
  | s + 1 => P f j s + f (j + s)
def Ev (f : Nat → Int) : Prop := ∀ s j k, P f j s ≤ P f k s + 1
variable {f g : Nat → Int}
theorem P_add (j s t : Nat) : P f j (s + t) = P f j s + P f (j + s) t := by
  induction t with
  | zero => simp [P]
  | succ t ih =>
    show P f j (s + t) + f (j + (s + t)) = P f j s + (P f (j + s) t + f (j + s + t))
    rw [ih, Nat.add_assoc j s t]; omega
theorem P_congr {j k : Nat} : ∀ {s : Nat}, (∀ i, i < s → f (j + i) = g (k + i)) → P f j s = P g k s
  | 0, _ => rfl
  | s + 1, h => by
    show P f j s + f (j + s) = P g k s + g (k + s)
    rw [P_congr fun i hi => h i (by omega), h s (by omega)]
theorem P_front (j s : Nat) : P f j (s + 1) = f j + P f (j + 1) s := by
  rw [Nat.add_comm s 1, P_add]
  show 0 + f (j + 0) + _ = _
  rw [Nat.add_zero]; omega
section
variable {n : Nat} (hp : ∀ i, f (i + n) = f i)
include hp
theorem per_mul (i m : Nat) : f (i + n * m) = f i := by
  induction m with
  | zero => rfl
  | succ m ih => rw [Nat.mul_succ, ← Nat.add_assoc, hp, ih]
theorem P_per (j m s : Nat) : P f (j + n * m) s = P f j s := P_congr fun i _ => by
  rw [show j + n * m + i = j + i + n * m by omega, per_mul hp]
theorem P_mod (j s : Nat) : P f j s = P f (j % n) s := by
  conv => lhs; rw [← Nat.mod_add_div j n]
  rw [P_per hp]
theorem P_tot (j : Nat) : P f j n = P f 0 n := by
  induction j with
  | zero => rfl
  | succ j ih =>
    have h1 := P_front (f := f) j n
    have h2 : P f j (n + 1) = P f j n + f (j + n) := rfl
    rw [hp] at h2
    omega
theorem P_tots (j m : Nat) : P f j (n * m) = m * P f 0 n := by
  induction m with
  | zero => simp [P]
  | succ m ih =>
    rw [Nat.mul_succ, P_add, ih, P_tot hp (j + n * m)]
    push_cast
    rw [Int.add_mul]; omega
theorem Ev_of (hn : 0 < n) (h : ∀ s, 1 ≤ s → s < n → ∀ j, j < n → ∀ k, k < n → P f j s ≤ P f k s + 1) : Ev f := by
  intro s j k
  have e : s = n * (s / n) + s % n := by have := Nat.mod_add_div s n; omega
  rw [e, P_add, P_add, P_tots hp, P_tots hp, P_per hp, P_per hp]
  rcases Nat.eq_zero_or_pos (s % n) with z | z
  · rw [z]
    show _ + (0 : Int) ≤ _ + (0 : Int) + 1
    omega
  · have := h (s % n) z (Nat.mod_lt _ hn) (j % n) (Nat.mod_lt _ hn) (k % n) (Nat.mod_lt _ hn)
    rw [← P_mod hp, ← P_mod hp] at this
    omega
/-- turning -/
theorem Ev_rot (hn : 0 < n) (a : Nat) (h : Ev fun i => f (i + a)) : Ev f := by
  have key : ∀ j s, P f j s = P (fun i => f (i + a)) (j + a * (n - 1)) s := fun j s => by
    rw [← P_per hp j a s]
    refine P_congr fun i _ => ?_
    show f _ = f _
    congr 1
    obtain ⟨m, rfl⟩ : ∃ m, n = m + 1 := ⟨n - 1, by omega⟩
    simp only [Nat.add_sub_cancel]
    rw [Nat.succ_mul, Nat.mul_comm m a]; omega
  intro s j k
  rw [key j, key k]
  exact h s _ _
end
theorem Ev_shift (a : Nat) (h : Ev f) : Ev fun i => f (i + a) := by
  have key : ∀ j s, P (fun i => f (i + a)) j s = P f (j + a) s := fun j s => P_congr fun i _ => by
    show f _ = f _
    congr 1; omega
  intro s j k
  rw [key, key]
  exact h s _ _
theorem P_compl (j s : Nat) : P (fun i => 1 - f i) j s = s - P f j s := by
  induction s with
  | zero => simp [P]
  | succ s ih =>
    show P (fun i => 1 - f i) j s + (1 - f (j + s)) = _ - (P f j s + f (j + s))
    rw [ih]; push_cast; omega
theorem Ev_compl (h : Ev f) : Ev fun i => 1 - f i := fun s j k => by
  rw [P_compl, P_compl]
  have := h s k j
  omega
/-- the other way round: g i = f (n - 1 - i), both with period n -/
theorem P_rev {n : Nat} (hn : 0 < n) (hf : ∀ i, f (i + n) = f i) (hg : ∀ i, g (i + n) = g i) (h : ∀ i, i < n → g i = f (n - 1 - i)) (j s : Nat) : ∃ m, P g j s = P f m s := by
  have hg' : ∀ m i, i < n * m → g i = f (n * m - 1 - i) := by
    intro m i hi
    have e : i = i % n + n * (i / n) := (Nat.mod_add_div i n).symm
    have hlt : i / n < m := Nat.div_lt_of_lt_mul hi
    obtain ⟨q, rfl⟩ : ∃ q, m = i / n + 1 + q := ⟨m - (i / n + 1), by omega⟩
    have e1 : g i = g (i % n) := by conv => lhs; rw [e]; rw [per_mul hg]
    rw [e1, h _ (Nat.mod_lt _ hn), ← per_mul hf _ q]
    congr 1
    have hm := Nat.mod_lt i hn
    generalize i / n = a at *
    generalize i % n = b at *
    subst e
    rw [Nat.mul_add, Nat.mul_add]
    omega
  refine ⟨n * (j + s) - j - s, ?_⟩
  have hle : j + s ≤ n * (j + s) := Nat.le_mul_of_pos_left _ hn
  have : ∀ t a, t ≤ s → a = n * (j + s) - j - t → P g j t = P f a t := by
    intro t
    induction t with
    | zero => intros; rfl
    | succ t ih =>
      intro a ht ha
      show P g j t + g (j + t) = _
      rw [P_front, ih (a + 1) (by omega) (by omega), hg' (j + s) (j + t) (by omega)]
      rw [show n * (j + s) - 1 - (j + t) = a by omega]; omega
  exact this s _ (Nat.le_refl _) (by omega)
theorem Ev_rev {n : Nat} (hn : 0 < n) (hf : ∀ i, f (i + n) = f i) (hg : ∀ i, g (i + n) = g i) (h : ∀ i, i < n → g i = f (n - 1 - i)) (H : Ev f) : Ev g := fun s j k => by
  obtain ⟨a, ha⟩ := P_rev hn hf hg h j s
  obtain ⟨b, hb⟩ := P_rev hn hf hg h k s
  rw [ha, hb]
  exact H s a b
/-! words -/
def fw (w : List Int) (i : Nat) : Int := w.getD (i % w.length) 0
theorem fw_per (w : List Int) (i : Nat) : fw w (i + w.length) = fw w i := by unfold fw; rw [Nat.add_mod_right]
theorem fw_lt {w : List Int} {i : Nat} (h : i < w.length) : fw w i = w[i] := by
  unfold fw
  rw [Nat.mod_eq_of_lt h]
  simp [h]
/-- the sum of a part -/
theorem sum_part {l : List Int} (h : ∀ i, (hi : i < l.length) → l[i] = f i) (k : Nat) : ∀ s, k + s ≤ l.length → ((l.drop k).take s).sum = P f k s
  | 0, _ => by simp [P]
  | s + 1, hl => by
    rw [List.take_add_one, List.sum_append, sum_part h k s (by omega), List.getElem?_drop, List.getElem?_eq_getElem (by omega), h]
    show _ + ([f (k + s)]).sum = P f k s + f (k + s)
    simp
theorem dbl {w : List Int} (i : Nat) (hi : i < (w ++ w).length) : (w ++ w)[i] = fw w i := by
  rw [List.length_append] at hi
  by_cases h : i < w.length
  · rw [List.getElem_append_left h, fw_lt h]
  · rw [List.getElem_append_right (by omega)]
    have e : fw w i = fw w (i - w.length) := by
      conv => lhs; rw [show i = (i - w.length) + w.length by omega]
      exact fw_per ..
    rw [e, fw_lt (by omega)]
theorem win {w : List Int} {k s : Nat} (hk : k ≤ w.length) (hs : s ≤ w.length) : (((w ++ w).drop k).take s).sum = P (fw w) k s :=
  sum_part dbl k s (by rw [List.length_append]; omega)
theorem fw_dbl (w : List Int) (hw : w ≠ []) : fw (w ++ w) = fw w := by
  funext i
  have hn : 0 < w.length := List.length_pos_iff.mpr hw
  have e : i % (w ++ w).length < (w ++ w).length := Nat.mod_lt _ (by rw [List.length_append]; omega)
  have : fw (w ++ w) i = (w ++ w)[i % (w ++ w).length] := by
    unfold fw
    simp only [List.getD_eq_getElem?_getD, List.getElem?_eq_getElem e]; rfl
  rw [this, dbl]
  unfold fw
  congr 1
  rw [List.length_append]
  exact Nat.mod_mod_of_dvd _ ⟨2, by omega⟩
theorem fw_rot (w : List Int) (a : Nat) (ha : a ≤ w.length) : fw (w.drop a ++ w.take a) = fun i => fw w (i + a) := by
  funext i
  have hl : (w.drop a ++ w.take a).length = w.length := by simp; omega
  rcases Nat.eq_zero_or_pos w.length with z | hn
  · have : w = [] := List.length_eq_zero_iff.mp z
    subst this
    simp [fw]
  have hi := Nat.mod_lt i hn
  have e1 : fw (w.drop a ++ w.take a) i = (w.drop a ++ w.take a)[i % w.length]'(by omega) := by
    unfold fw
    simp only [List.getD_eq_getElem?_getD, hl, List.getElem?_eq_getElem (show i % w.length < (w.drop a ++ w.take a).length by omega)]; rfl
  rw [e1]
  have e2 : fw w (i + a) = fw w (i % w.length + a) := by
    unfold fw
    rw [Nat.mod_add_mod]
  rw [e2]
  have key : ∀ b (hb : b < w.length), (w.drop a ++ w.take a)[b]'(by omega) = fw w (b + a) := by
    intro b hi
    by_cases h : b < w.length - a
    · rw [List.getElem_append_left (by simpa using h), List.getElem_drop, fw_lt (by omega)]
      congr 1; omega
    · rw [List.getElem_append_right (by simpa using h), List.getElem_take]
      rw [show fw w (b + a) = fw w (b - (w.length - a)) from by
          conv => lhs; rw [show b + a = (b - (w.length - a)) + w.length by omega]
          exact fw_per .., fw_lt (by omega)]
      simp
  exact key _ hi
theorem fw_map (w : List Int) (hw : w ≠ []) : fw (w.map fun x => 1 - x) = fun i => 1 - fw w i := by
  funext i
  have hn : 0 < w.length := List.length_pos_iff.mpr hw
  unfold fw
  rw [List.length_map]
  simp [List.getD_eq_getElem?_getD, Nat.mod_lt i hn]
theorem fw_rev (w : List Int) (i : Nat) (hi : i < w.length) : fw w.reverse i = fw w (w.length - 1 - i) := by
  rw [fw_lt (by simpa using hi), fw_lt (by omega), List.getElem_reverse]
end Wn

set_option Elab.async false
set_option linter.all false
set_option maxRecDepth 100000
set_option maxHeartbeats 2000000
/-! even rings: heights, and two substitutions that keep them -/
namespace Wn
open Tv
variable {f : Nat → Int}
theorem P_ge1 {g : Nat → Int} {c : Int} : ∀ {n : Nat}, (∀ i, i < n → c ≤ g i) → (∃ i, i < n ∧ c + 1 ≤ g i) → n * c + 1 ≤ P g 0 n
  | 0, _, h => by obtain ⟨i, hi, _⟩ := h; omega
  | n + 1, h, h2 => by
    show ((n + 1 : Nat) : Int) * c + 1 ≤ P g 0 n + g (0 + n)
    have a := h n (by omega)
    rw [Nat.zero_add]
    have e : ((n + 1 : Nat) : Int) * c = n * c + c := by push_cast; rw [Int.add_mul]; omega
    rw [e]
    obtain ⟨i, hi, hc⟩ := h2
    by_cases z : i = n
    · subst z
      have : ∀ m : Nat, (∀ i, i < m → c ≤ g i) → (m : Int) * c ≤ P g 0 m := by
        intro m
        induction m with
        | zero => intro _; simp [P]
        | succ m ih =>
          intro hm
          show ((m + 1 : Nat) : Int) * c ≤ P g 0 m + g (0 + m)
          have e : ((m + 1 : Nat) : Int) * c = m * c + c := by push_cast; rw [Int.add_mul]; omega
          rw [e, Nat.zero_add]
          have := ih fun i hi => hm i (by omega)
          have := hm m (by omega)
          omega
      have := this i fun j hj => h j (by omega)
      omega
    · have := P_ge1 (n := n) (fun j hj => h j (by omega)) ⟨i, by omega, hc⟩
      omega
theorem P_neg {g : Nat → Int} (j : Nat) : ∀ n, P (fun i => - g i) j n = - P g j n
  | 0 => by simp [P]
  | n + 1 => by
    show P (fun i => - g i) j n + - g (j + n) = - (P g j n + g (j + n))
    rw [P_neg j n]; omega
theorem SS_succ (s : Nat) : ∀ n, P (fun j => P f j (s + 1)) 0 n = P (fun j => P f j s) 0 n + P f s n
  | 0 => by simp [P]
  | n + 1 => by
    show P (fun j => P f j (s + 1)) 0 n + (P f (0 + n) s + f (0 + n + s)) = P (fun j => P f j s) 0 n + P f (0 + n) s + (P f s n + f (s + n))
    rw [SS_succ s n, show 0 + n + s = s + n by omega]; omega
theorem SS_eq {n : Nat} (hp : ∀ i, f (i + n) = f i) : ∀ s : Nat, P (fun j => P f j s) 0 n = s * P f 0 n
  | 0 => by
    have : ∀ m, P (fun j => P f j 0) 0 m = 0 := by
      intro m
      induction m with
      | zero => rfl
      | succ m ih => show P (fun j => P f j 0) 0 m + P f (0 + m) 0 = 0; rw [ih]; rfl
    rw [this]; simp
  | s + 1 => by
    rw [SS_succ, SS_eq hp s, P_tot hp s]
    push_cast; rw [Int.add_mul]; omega
/-- every part has its share, to less than one sign -/
theorem share {n : Nat} (hp : ∀ i, f (i + n) = f i) (hn : 0 < n) (h : Ev f) (j s : Nat) : n * P f j s < s * P f 0 n + n ∧ s * P f 0 n < n * P f j s + n := by
  have hj : j % n < n := Nat.mod_lt _ hn
  have e : P f (j % n) s = P f j s := (P_mod hp j s).symm
  constructor
  · have := P_ge1 (g := fun i => P f i s) (c := P f j s - 1) (n := n) (fun i _ => by have := h s j i; omega) ⟨j % n, hj, by show _ ≤ P f (j % n) s; rw [e]; omega⟩
    rw [SS_eq hp, Int.mul_sub] at this
    omega
  · have := P_ge1 (g := fun i => - P f i s) (c := - P f j s - 1) (n := n) (fun i _ => by have := h s i j; omega) ⟨j % n, hj, by show _ ≤ - P f (j % n) s; rw [e]; omega⟩
    rw [P_neg, SS_eq hp, Int.mul_sub, Int.mul_neg] at this
    omega
/-! heights -/
def hs (Z T h : Int) : List Int → List Int
  | [] => [h]
  | x :: w => h :: hs Z T (if x = 0 then h - T else h + Z) w
def he (Z T h : Int) : List Int → Int
  | [] => h
  | x :: w => he Z T (if x = 0 then h - T else h + Z) w
def b1 (Z T h : Int) : List Int → List Int
  | [] => []
  | x :: w => if x = 0 then b1 Z T (h - T) w else h :: b1 Z T (h + Z) w
def a0 (Z T h : Int) : List Int → List Int
  | [] => []
  | x :: w => if x = 0 then (h - T) :: a0 Z T (h - T) w else a0 Z T (h + Z) w
def Bt (w : List Int) : Prop := ∀ x ∈ w, x = 0 ∨ x = 1
theorem Bt.tl {x : Int} {w : List Int} (h : Bt (x :: w)) : Bt w := fun y hy => h y (List.mem_cons_of_mem _ hy)
theorem hs_head {Z T h : Int} {w : List Int} : h ∈ hs Z T h w := by cases w <;> simp [hs]
theorem mem_hs {Z T : Int} : ∀ {w : List Int} {h a : Int}, Bt w → (a ∈ hs Z T h w ↔ ∃ i : Nat, i ≤ w.length ∧ a = h + (Z + T) * (w.take i).sum - i * T)
  | [], h, a, _ => by
    constructor
    · intro ha
      have : a = h := by simpa [hs] using ha
      exact ⟨0, Nat.le_refl _, by simp [this]⟩
    · rintro ⟨i, hi, rfl⟩
      have : i = 0 := by simpa using hi
      subst this
      simp [hs]
  | x :: w, h, a, hb => by
    have ih := mem_hs (Z := Z) (T := T) (w := w) (h := if x = 0 then h - T else h + Z) (a := a) hb.tl
    have step : ∀ i : Nat, (if x = 0 then h - T else h + Z) + (Z + T) * (w.take i).sum - i * T = h + (Z + T) * ((x :: w).take (i + 1)).sum - ((i + 1 : Nat) : Int) * T := by
      intro i
      rw [List.take_succ_cons, List.sum_cons, Int.mul_add]
      have e : ((i + 1 : Nat) : Int) * T = i * T + T := by push_cast; rw [Int.add_mul]; omega
      rw [e]
      rcases hb x (List.mem_cons_self ..) with rfl | rfl
      · rw [if_pos rfl, Int.mul_zero]; omega
      · rw [if_neg (by decide), Int.mul_one]; omega
    show a ∈ h :: hs Z T _ w ↔ _
    rw [List.mem_cons, ih]
    constructor
    · rintro (rfl | ⟨i, hi, e⟩)
      · exact ⟨0, Nat.zero_le _, by simp⟩
      · exact ⟨i + 1, by simpa using hi, by rw [e, step]⟩
    · rintro ⟨i, hi, e⟩
      cases i with
      | zero => left; simpa using e
      | succ i => right; exact ⟨i, by simpa using hi, by rw [e, step]⟩
theorem b1_sub {Z T : Int} : ∀ {w : List Int} {h a : Int}, a ∈ b1 Z T h w → a ∈ hs Z T h w
  | [], h, a, ha => by cases ha
  | x :: w, h, a, ha => by
    unfold b1 at ha
    unfold hs
    split at ha
    · rename_i c; rw [if_pos c]; exact List.mem_cons_of_mem _ (b1_sub ha)
    · rename_i c
      rw [if_neg c]
      rcases List.mem_cons.mp ha with rfl | ha
      · exact List.mem_cons_self ..
      · exact List.mem_cons_of_mem _ (b1_sub ha)
theorem a0_sub {Z T : Int} : ∀ {w : List Int} {h a : Int}, a ∈ a0 Z T h w → a ∈ hs Z T h w
  | [], h, a, ha => by cases ha
  | x :: w, h, a, ha => by
    unfold a0 at ha
    unfold hs
    split at ha
    · rename_i c
      rw [if_pos c]
      rcases List.mem_cons.mp ha with rfl | ha
      · exact List.mem_cons_of_mem _ hs_head
      · exact List.mem_cons_of_mem _ (a0_sub ha)
    · rename_i c; rw [if_neg c]; exact List.mem_cons_of_mem _ (a0_sub ha)
theorem fwd {Z T : Int} (hT : 0 ≤ T) : ∀ {w : List Int} {h b : Int}, b ∈ hs Z T h w → (∃ c ∈ b1 Z T h w, c ≤ b) ∨ he Z T h w ≤ b
  | [], h, b, hb => by
    have : b = h := by simpa [hs] using hb
    right; rw [this]; exact Int.le_refl _
  | x :: w, h, b, hb => by
    unfold hs at hb
    unfold b1 he
    rcases List.mem_cons.mp hb with rfl | hb
    · split
      · rename_i c
        rcases fwd hT (w := w) (h := b - T) hs_head with ⟨d, d1, d2⟩ | d
        · exact .inl ⟨d, d1, by omega⟩
        · exact .inr (by omega)
      · exact .inl ⟨b, List.mem_cons_self .., Int.le_refl _⟩
    · split
      · rename_i c; rw [if_pos c] at hb; exact fwd hT hb
      · rename_i c
        rw [if_neg c] at hb
        rcases fwd hT hb with ⟨d, d1, d2⟩ | d
        · exact .inl ⟨d, List.mem_cons_of_mem _ d1, d2⟩
        · exact .inr d
theorem fst1 {Z T : Int} (hT : 0 ≤ T) : ∀ {w : List Int} {h : Int}, Bt w → 1 ∈ w → ∃ c ∈ b1 Z T h w, c ≤ h
  | x :: w, h, hb, h1 => by
    unfold b1
    rcases hb x (List.mem_cons_self ..) with rfl | rfl
    · rw [if_pos rfl]
      obtain ⟨c, c1, c2⟩ := fst1 (Z := Z) hT (h := h - T) hb.tl ((List.mem_cons.mp h1).resolve_left (by decide))
      exact ⟨c, c1, by omega⟩
    · rw [if_neg (by decide)]
      exact ⟨h, List.mem_cons_self .., Int.le_refl _⟩
theorem bwd {Z T : Int} (hZ : 0 ≤ Z) : ∀ {w : List Int} {h b : Int}, b ∈ hs Z T h w → (∃ c ∈ a0 Z T h w, c ≤ b) ∨ h ≤ b
  | [], h, b, hb => by
    have : b = h := by simpa [hs] using hb
    right; rw [this]; exact Int.le_refl _
  | x :: w, h, b, hb => by
    unfold hs at hb
    unfold a0
    rcases List.mem_cons.mp hb with rfl | hb
    · exact .inr (Int.le_refl _)
    · split
      · rename_i c
        rw [if_pos c] at hb
        rcases bwd hZ hb with ⟨d, d1, d2⟩ | d
        · exact .inl ⟨d, List.mem_cons_of_mem _ d1, d2⟩
        · exact .inl ⟨_, List.mem_cons_self .., d⟩
      · rename_i c
        rw [if_neg c] at hb
        rcases bwd hZ hb with ⟨d, d1, d2⟩ | d
        · exact .inl ⟨d, d1, d2⟩
        · exact .inr (by omega)
theorem he_up {Z T : Int} (hZ : 0 ≤ Z) : ∀ {w : List Int} {h : Int}, 0 ∉ w → h ≤ he Z T h w
  | [], h, _ => Int.le_refl _
  | x :: w, h, hn => by
    unfold he
    rw [if_neg (fun e => hn (by rw [e]; exact List.mem_cons_self ..))]
    have := he_up (Z := Z) (T := T) hZ (w := w) (h := h + Z) fun e => hn (List.mem_cons_of_mem _ e)
    omega
theorem lst0 {Z T : Int} (hZ : 0 ≤ Z) : ∀ {w : List Int} {h : Int}, 0 ∈ w → ∃ c ∈ a0 Z T h w, c ≤ he Z T h w
  | x :: w, h, h0 => by
    unfold a0 he
    by_cases hm : 0 ∈ w
    · split
      · rename_i c
        obtain ⟨d, d1, d2⟩ := lst0 (T := T) hZ (h := h - T) hm
        exact ⟨d, List.mem_cons_of_mem _ d1, d2⟩
      · rename_i c
        exact lst0 hZ hm
    · have c : x = 0 := by
        rcases List.mem_cons.mp h0 with e | e
        · exact e.symm
        · exact absurd e hm
      rw [if_pos c, if_pos c]
      exact ⟨h - T, List.mem_cons_self .., he_up hZ hm⟩
theorem he_eq {Z T : Int} : ∀ {w : List Int} {h : Int}, Bt w → he Z T h w = h + Z * (w.count 1 : Nat) - T * (w.count 0 : Nat)
  | [], h, _ => by simp [he]
  | x :: w, h, hb => by
    unfold he
    rw [he_eq hb.tl]
    rcases hb x (List.mem_cons_self ..) with rfl | rfl
    · rw [if_pos rfl, List.count_cons_self, List.count_cons_of_ne (by decide)]; push_cast; rw [Int.mul_add]; omega
    · rw [if_neg (by decide), List.count_cons_self, List.count_cons_of_ne (by decide)]; push_cast; rw [Int.mul_add]; omega
/-! the two substitutions -/
def Lw (w : List Int) : List Int := w.flatMap fun x => if x = 0 then [0] else [0, 1]
def Rw (w : List Int) : List Int := w.flatMap fun x => if x = 0 then [0, 1] else [1]
theorem hsL {Z T : Int} : ∀ {w : List Int} {h a : Int}, (a ∈ hs (Z + T) T h (Lw w) ↔ a ∈ hs Z T h w ∨ ∃ c ∈ b1 Z T h w, a = c - T)
  | [], h, a => by simp [Lw, hs, b1]
  | x :: w, h, a => by
    unfold Lw
    rw [List.flatMap_cons]
    unfold b1
    by_cases c : x = 0
    · rw [if_pos c, if_pos c]
      show a ∈ h :: hs (Z + T) T (h - T) (Lw w) ↔ a ∈ h :: hs Z T (if x = 0 then h - T else h + Z) w ∨ _
      rw [if_pos c, List.mem_cons, List.mem_cons, hsL, or_assoc]
    · rw [if_neg c, if_neg c]
      show a ∈ h :: (h - T) :: hs (Z + T) T (h - T + (Z + T)) (Lw w) ↔ a ∈ h :: hs Z T (if x = 0 then h - T else h + Z) w ∨ _
      rw [if_neg c, show h - T + (Z + T) = h + Z by omega, List.mem_cons, List.mem_cons, List.mem_cons, hsL]
      constructor
      · rintro (e | e | e | ⟨d, d1, d2⟩)
        · exact .inl (.inl e)
        · exact .inr ⟨h, List.mem_cons_self .., e⟩
        · exact .inl (.inr e)
        · exact .inr ⟨d, List.mem_cons_of_mem _ d1, d2⟩
      · rintro ((e | e) | ⟨d, d1, d2⟩)
        · exact .inl e
        · exact .inr (.inr (.inl e))
        · rcases List.mem_cons.mp d1 with rfl | d1
          · exact .inr (.inl d2)
          · exact .inr (.inr (.inr ⟨d, d1, d2⟩))
theorem hsR {Z T : Int} : ∀ {w : List Int} {h a : Int}, (a ∈ hs Z (Z + T) h (Rw w) ↔ a ∈ hs Z T h w ∨ ∃ c ∈ a0 Z T h w, a = c - Z)
  | [], h, a => by simp [Rw, hs, a0]
  | x :: w, h, a => by
    unfold Rw
    rw [List.flatMap_cons]
    unfold a0
    by_cases c : x = 0
    · rw [if_pos c, if_pos c]
      show a ∈ h :: (h - (Z + T)) :: hs Z (Z + T) (h - (Z + T) + Z) (Rw w) ↔ a ∈ h :: hs Z T (if x = 0 then h - T else h + Z) w ∨ _
      rw [if_pos c, show h - (Z + T) + Z = h - T by omega, List.mem_cons, List.mem_cons, List.mem_cons, hsR]
      constructor
      · rintro (e | e | e | ⟨d, d1, d2⟩)
        · exact .inl (.inl e)
        · exact .inr ⟨h - T, List.mem_cons_self .., by omega⟩
        · exact .inl (.inr e)
        · exact .inr ⟨d, List.mem_cons_of_mem _ d1, d2⟩
      · rintro ((e | e) | ⟨d, d1, d2⟩)
        · exact .inl e
        · exact .inr (.inr (.inl e))
        · rcases List.mem_cons.mp d1 with rfl | d1
          · exact .inr (.inl (by omega))
          · exact .inr (.inr (.inr ⟨d, d1, d2⟩))
    · rw [if_neg c, if_neg c]
      show a ∈ h :: hs Z (Z + T) (h + Z) (Rw w) ↔ a ∈ h :: hs Z T (if x = 0 then h - T else h + Z) w ∨ _
      rw [if_neg c, List.mem_cons, List.mem_cons, hsR, or_assoc]
end Wn

set_option Elab.async false
set_option linter.all false
set_option maxRecDepth 100000
set_option maxHeartbeats 2000000
namespace Wn
open Tv
def BAL (Z T : Int) (w : List Int) : Prop := ∀ a ∈ hs Z T 0 w, ∀ b ∈ hs Z T 0 w, a - b < Z + T
def zs (w : List Int) : Int := (w.count 0 : Nat)
def os (w : List Int) : Int := (w.count 1 : Nat)
theorem len_zo : ∀ {w : List Int}, Bt w → w.count 0 + w.count 1 = w.length
  | [], _ => rfl
  | x :: w, h => by
    have ih := len_zo (w := w) h.tl
    rw [List.length_cons, ← ih]
    rcases h x (List.mem_cons_self ..) with rfl | rfl
    · rw [List.count_cons_self, List.count_cons_of_ne (by decide)]; omega
    · rw [List.count_cons_self, List.count_cons_of_ne (by decide)]; omega
theorem sum_os : ∀ {w : List Int}, Bt w → w.sum = (w.count 1 : Nat)
  | [], _ => rfl
  | x :: w, h => by
    have ih := sum_os (w := w) h.tl
    rw [List.sum_cons, ih]
    rcases h x (List.mem_cons_self ..) with rfl | rfl
    · rw [List.count_cons_of_ne (by decide)]; omega
    · rw [List.count_cons_self]; push_cast; omega
theorem take_P (w : List Int) {i : Nat} (h : i ≤ w.length) : (w.take i).sum = P (fw w) 0 i := by
  have := sum_part (l := w) (f := fw w) (fun i hi => (fw_lt hi).symm) 0 i (by omega)
  rwa [List.drop_zero] at this
theorem tot_P {w : List Int} (hb : Bt w) : P (fw w) 0 w.length = os w := by
  rw [← take_P w (Nat.le_refl _), List.take_length]
  exact sum_os hb
section
variable {w : List Int} (hb : Bt w) (hw : w ≠ [])
include hb hw
theorem Ev_bal : Ev (fw w) ↔ BAL (zs w) (os w) w := by
  have hn : 0 < w.length := List.length_pos_iff.mpr hw
  have hzo : zs w + os w = w.length := by have := len_zo hb; unfold zs os; omega
  have hT := tot_P hb
  constructor
  · intro h a ha b hb'
    obtain ⟨i, hi, rfl⟩ := (mem_hs hb).mp ha
    obtain ⟨k, hk, rfl⟩ := (mem_hs hb).mp hb'
    rw [hzo, take_P w hi, take_P w hk]
    rcases Nat.le_total i k with c | c
    · obtain ⟨d, rfl⟩ : ∃ d, k = i + d := ⟨k - i, by omega⟩
      have s := (share (fw_per w) hn h i d).2
      rw [hT] at s
      have e1 : (w.length : Int) * P (fw w) 0 (i + d) = w.length * P (fw w) 0 i + w.length * P (fw w) i d := by rw [P_add, Nat.zero_add, Int.mul_add]
      have e2 : ((i + d : Nat) : Int) * os w = i * os w + d * os w := by push_cast; rw [Int.add_mul]
      rw [e1, e2]; omega
    · obtain ⟨d, rfl⟩ : ∃ d, i = k + d := ⟨i - k, by omega⟩
      have s := (share (fw_per w) hn h k d).1
      rw [hT] at s
      have e1 : (w.length : Int) * P (fw w) 0 (k + d) = w.length * P (fw w) 0 k + w.length * P (fw w) k d := by rw [P_add, Nat.zero_add, Int.mul_add]
      have e2 : ((k + d : Nat) : Int) * os w = k * os w + d * os w := by push_cast; rw [Int.add_mul]
      rw [e1, e2]; omega
  · intro h
    have ph : ∀ i, i ≤ w.length → (w.length : Int) * P (fw w) 0 i - i * os w ∈ hs (zs w) (os w) 0 w := fun i hi =>
      (mem_hs hb).mpr ⟨i, hi, by rw [hzo, take_P w hi]; omega⟩
    have key : ∀ s, s < w.length → ∀ j, j < w.length → (w.length : Int) * P (fw w) j s < s * os w + w.length ∧ s * os w < w.length * P (fw w) j s + w.length := by
      intro s hs j hj
      have e1 : (w.length : Int) * P (fw w) 0 (j + s) = w.length * P (fw w) 0 j + w.length * P (fw w) j s := by rw [P_add, Nat.zero_add, Int.mul_add]
      by_cases c : j + s ≤ w.length
      · have e2 : ((j + s : Nat) : Int) * os w = j * os w + s * os w := by push_cast; rw [Int.add_mul]
        have a1 := h _ (ph (j + s) c) _ (ph j (by omega))
        have a2 := h _ (ph j (by omega)) _ (ph (j + s) c)
        rw [hzo, e1, e2] at a1 a2
        omega
      · obtain ⟨r, hr⟩ : ∃ r, j + s = w.length + r := ⟨j + s - w.length, by omega⟩
        have e3 : P (fw w) 0 (j + s) = os w + P (fw w) 0 r := by
          rw [hr, P_add, Nat.zero_add, hT]
          congr 1
          have := P_per (fw_per w) 0 1 r
          rw [Nat.mul_one, Nat.zero_add] at this
          exact this
        have e4 : (w.length : Int) * P (fw w) 0 (j + s) = w.length * os w + w.length * P (fw w) 0 r := by rw [e3, Int.mul_add]
        have e2 : (r : Int) * os w = j * os w + s * os w - w.length * os w := by
          have : (r : Int) = j + s - w.length := by omega
          rw [this, Int.sub_mul, Int.add_mul]
        have a1 := h _ (ph r (by omega)) _ (ph j (by omega))
        have a2 := h _ (ph j (by omega)) _ (ph r (by omega))
        rw [hzo, e2] at a1 a2
        omega
    refine Ev_of (fw_per w) hn fun s _ h2 j hj k hk => ?_
    have k1 := (key s h2 j hj).1
    have k2 := (key s h2 k hk).2
    by_cases c : P (fw w) j s ≤ P (fw w) k s + 1
    · exact c
    · have c : P (fw w) k s + 2 ≤ P (fw w) j s := by omega
      have := Int.mul_le_mul_of_nonneg_left c (show (0 : Int) ≤ w.length by omega)
      rw [Int.mul_add] at this
      omega
omit hw in
theorem zs_nn : 0 ≤ zs w ∧ 0 ≤ os w := ⟨Int.natCast_nonneg _, Int.natCast_nonneg _⟩
theorem bal_L : BAL (zs w + os w) (os w) (Lw w) ↔ BAL (zs w) (os w) w := by
  have hn : 0 < w.length := List.length_pos_iff.mpr hw
  have hzo : zs w + os w = w.length := by have := len_zo hb; unfold zs os; omega
  obtain ⟨hz, ho⟩ := zs_nn hb
  constructor
  · intro h a ha b hb'
    by_cases c : os w = 0
    · obtain ⟨i, hi, rfl⟩ := (mem_hs hb).mp ha
      obtain ⟨k, hk, rfl⟩ := (mem_hs hb).mp hb'
      have z : ∀ i, (w.take i).sum = 0 := by
        intro i
        have hbt : Bt (w.take i) := fun x hx => hb x (List.mem_of_mem_take hx)
        rw [sum_os hbt]
        have h1 : w.count 1 = 0 := by unfold os at c; omega
        have h2 : (w.take i).count 1 ≤ w.count 1 := (List.take_sublist i w).count_le 1
        omega
      rw [z, z, c]; simp; omega
    · have h1 : 1 ∈ w := by
        unfold os at c
        exact List.count_pos_iff.mp (by omega)
      have : ∃ d ∈ b1 (zs w) (os w) 0 w, d ≤ b := by
        rcases fwd ho hb' with q | q
        · exact q
        · have e : he (zs w) (os w) 0 w = 0 := by
            rw [he_eq hb]
            show 0 + zs w * os w - os w * zs w = 0
            rw [Int.mul_comm (zs w)]; omega
          rw [e] at q
          obtain ⟨d, d1, d2⟩ := fst1 (Z := zs w) ho (h := 0) hb h1
          exact ⟨d, d1, by omega⟩
      obtain ⟨d, d1, d2⟩ := this
      have := h a (hsL.mpr (.inl ha)) (d - os w) (hsL.mpr (.inr ⟨d, d1, rfl⟩))
      omega
  · intro h a ha b hb'
    rcases hsL.mp ha with a1 | ⟨c, c1, rfl⟩
    · rcases hsL.mp hb' with b1 | ⟨d, d1, rfl⟩
      · have := h a a1 b b1; omega
      · have := h a a1 d (b1_sub d1); omega
    · rcases hsL.mp hb' with b1 | ⟨d, d1, rfl⟩
      · have := h c (b1_sub c1) b b1; omega
      · have := h c (b1_sub c1) d (b1_sub d1); omega
theorem bal_R : BAL (zs w) (zs w + os w) (Rw w) ↔ BAL (zs w) (os w) w := by
  have hn : 0 < w.length := List.length_pos_iff.mpr hw
  have hzo : zs w + os w = w.length := by have := len_zo hb; unfold zs os; omega
  obtain ⟨hz, ho⟩ := zs_nn hb
  constructor
  · intro h a ha b hb'
    by_cases c : zs w = 0
    · obtain ⟨i, hi, rfl⟩ := (mem_hs hb).mp ha
      obtain ⟨k, hk, rfl⟩ := (mem_hs hb).mp hb'
      have z : ∀ i, i ≤ w.length → (w.take i).sum = i := by
        intro i hi
        have hbt : Bt (w.take i) := fun x hx => hb x (List.mem_of_mem_take hx)
        rw [sum_os hbt]
        have h1 : w.count 0 = 0 := by unfold zs at c; omega
        have h2 : (w.take i).count 0 ≤ w.count 0 := (List.take_sublist i w).count_le 0
        have h3 := len_zo hbt
        rw [List.length_take] at h3
        omega
      have e1 : ∀ j : Nat, (0 + os w) * (j : Int) = j * os w := fun j => by rw [Int.zero_add, Int.mul_comm]
      rw [z i hi, z k hk, c, e1, e1]; omega
    · have h0 : 0 ∈ w := by
        unfold zs at c
        exact List.count_pos_iff.mp (by omega)
      have : ∃ d ∈ a0 (zs w) (os w) 0 w, d ≤ b := by
        rcases bwd hz hb' with q | q
        · exact q
        · have e : he (zs w) (os w) 0 w = 0 := by
            rw [he_eq hb]
            show 0 + zs w * os w - os w * zs w = 0
            rw [Int.mul_comm (zs w)]; omega
          obtain ⟨d, d1, d2⟩ := lst0 (T := os w) hz (h := 0) h0
          rw [e] at d2
          exact ⟨d, d1, by omega⟩
      obtain ⟨d, d1, d2⟩ := this
      have := h a (hsR.mpr (.inl ha)) (d - zs w) (hsR.mpr (.inr ⟨d, d1, rfl⟩))
      omega
  · intro h a ha b hb'
    rcases hsR.mp ha with a1 | ⟨c, c1, rfl⟩
    · rcases hsR.mp hb' with b1 | ⟨d, d1, rfl⟩
      · have := h a a1 b b1; omega
      · have := h a a1 d (a0_sub d1); omega
    · rcases hsR.mp hb' with b1 | ⟨d, d1, rfl⟩
      · have := h c (a0_sub c1) b b1; omega
      · have := h c (a0_sub c1) d (a0_sub d1); omega
end
theorem Bt_L : ∀ {w : List Int}, Bt w → Bt (Lw w) ∧ (Lw w).count 0 = w.count 0 + w.count 1 ∧ (Lw w).count 1 = w.count 1
  | [], _ => ⟨fun x hx => (by cases hx), rfl, rfl⟩
  | x :: w, h => by
    obtain ⟨i1, i2, i3⟩ := Bt_L (w := w) h.tl
    unfold Lw
    rw [List.flatMap_cons]
    show Bt ((if x = 0 then [0] else [0, 1]) ++ Lw w) ∧ ((if x = 0 then [0] else [0, 1]) ++ Lw w).count 0 = _ ∧ ((if x = 0 then [0] else [0, 1]) ++ Lw w).count 1 = _
    rw [List.count_append, List.count_append, i2, i3]
    rcases h x (List.mem_cons_self ..) with rfl | rfl
    · rw [if_pos rfl]
      refine ⟨fun y hy => ?_, by simp [List.count_cons]; try omega, by simp [List.count_cons]; try omega⟩
      rcases List.mem_append.mp hy with hy | hy
      · simp at hy; exact .inl hy
      · exact i1 y hy
    · rw [if_neg (by decide)]
      refine ⟨fun y hy => ?_, by simp [List.count_cons]; try omega, by simp [List.count_cons]; try omega⟩
      rcases List.mem_append.mp hy with hy | hy
      · simp at hy; exact hy
      · exact i1 y hy
theorem Bt_R : ∀ {w : List Int}, Bt w → Bt (Rw w) ∧ (Rw w).count 0 = w.count 0 ∧ (Rw w).count 1 = w.count 0 + w.count 1
  | [], _ => ⟨fun x hx => (by cases hx), rfl, rfl⟩
  | x :: w, h => by
    obtain ⟨i1, i2, i3⟩ := Bt_R (w := w) h.tl
    unfold Rw
    rw [List.flatMap_cons]
    show Bt ((if x = 0 then [0, 1] else [1]) ++ Rw w) ∧ ((if x = 0 then [0, 1] else [1]) ++ Rw w).count 0 = _ ∧ ((if x = 0 then [0, 1] else [1]) ++ Rw w).count 1 = _
    rw [List.count_append, List.count_append, i2, i3]
    rcases h x (List.mem_cons_self ..) with rfl | rfl
    · rw [if_pos rfl]
      refine ⟨fun y hy => ?_, by simp [List.count_cons]; try omega, by simp [List.count_cons]; try omega⟩
      rcases List.mem_append.mp hy with hy | hy
      · simp at hy; exact hy
      · exact i1 y hy
    · rw [if_neg (by decide)]
      refine ⟨fun y hy => ?_, by simp [List.count_cons]; try omega, by simp [List.count_cons]; try omega⟩
      rcases List.mem_append.mp hy with hy | hy
      · simp at hy; exact .inr hy
      · exact i1 y hy
theorem ne_of_len {w : List Int} (h : w.count 0 + w.count 1 ≠ 0) : w ≠ [] := by rintro rfl; exact h rfl
theorem Ev_L {w : List Int} (hb : Bt w) (hw : w ≠ []) : Ev (fw (Lw w)) ↔ Ev (fw w) := by
  obtain ⟨a, b, c⟩ := Bt_L hb
  have hn := List.length_pos_iff.mpr hw
  have := len_zo hb
  rw [Ev_bal a (ne_of_len (by omega)), Ev_bal hb hw]
  have e1 : zs (Lw w) = zs w + os w := by unfold zs os; rw [b]; push_cast; rfl
  have e2 : os (Lw w) = os w := by unfold os; rw [c]
  rw [e1, e2]
  exact bal_L hb hw
theorem Ev_R {w : List Int} (hb : Bt w) (hw : w ≠ []) : Ev (fw (Rw w)) ↔ Ev (fw w) := by
  obtain ⟨a, b, c⟩ := Bt_R hb
  have hn := List.length_pos_iff.mpr hw
  have := len_zo hb
  rw [Ev_bal a (ne_of_len (by omega)), Ev_bal hb hw]
  have e1 : zs (Rw w) = zs w := by unfold zs; rw [b]
  have e2 : os (Rw w) = zs w + os w := by unfold zs os; rw [c]; push_cast; rfl
  rw [e1, e2]
  exact bal_R hb hw
/-! the period of an even ring -/
section
variable {w : List Int} (hb : Bt w) (hw : w ≠ []) (hE : Ev (fw w))
def gz (w : List Int) : Nat := Nat.gcd (w.count 0) (w.count 1)
include hb hw
theorem gz_pos : 0 < gz w := by
  have hn := List.length_pos_iff.mpr hw
  have := len_zo hb
  unfold gz
  rcases Nat.eq_zero_or_pos (Nat.gcd (w.count 0) (w.count 1)) with c | c
  · rw [Nat.gcd_eq_zero_iff] at c; omega
  · exact c
omit hw in
theorem gz_len : gz w * (w.length / gz w) = w.length := by
  refine Nat.mul_div_cancel' ?_
  rw [← len_zo hb]
  exact Nat.dvd_add (Nat.gcd_dvd_left ..) (Nat.gcd_dvd_right ..)
include hE
theorem per_share (j : Nat) : P (fw w) j (w.length / gz w) = ((w.count 1 / gz w : Nat) : Int) := by
  have hn := List.length_pos_iff.mpr hw
  have e1 := gz_len hb
  have e2 : gz w * (w.count 1 / gz w) = w.count 1 := Nat.mul_div_cancel' (Nat.gcd_dvd_right ..)
  obtain ⟨s1, s2⟩ := share (fw_per w) hn hE j (w.length / gz w)
  rw [tot_P hb] at s1 s2
  have e3 : ((w.length / gz w : Nat) : Int) * os w = w.length * ((w.count 1 / gz w : Nat) : Int) := by
    unfold os
    have : (w.length / gz w) * w.count 1 = w.length * (w.count 1 / gz w) := by
      conv => lhs; rw [← e2]
      conv => rhs; rw [← e1]
      rw [Nat.mul_assoc, Nat.mul_left_comm]
    exact_mod_cast this
  rw [e3] at s1 s2
  have h1 : (w.length : Int) * P (fw w) j (w.length / gz w) < w.length * (((w.count 1 / gz w : Nat) : Int) + 1) := by rw [Int.mul_add]; omega
  have h2 : (w.length : Int) * ((w.count 1 / gz w : Nat) : Int) < w.length * (P (fw w) j (w.length / gz w) + 1) := by rw [Int.mul_add]; omega
  have p : (0 : Int) < w.length := by omega
  have h1 := Int.lt_of_mul_lt_mul_left h1 (Int.le_of_lt p)
  have h2 := Int.lt_of_mul_lt_mul_left h2 (Int.le_of_lt p)
  omega
theorem per_q (j : Nat) : fw w (j + w.length / gz w) = fw w j := by
  have a := per_share hb hw hE j
  have b := per_share hb hw hE (j + 1)
  have c := P_front (f := fw w) j (w.length / gz w)
  have d : P (fw w) j (w.length / gz w + 1) = P (fw w) j (w.length / gz w) + fw w (j + w.length / gz w) := rfl
  omega
omit hE in
theorem per_min {p : Nat} (hp : 0 < p) (hd : p ∣ w.length) (h : ∀ i, fw w (i + p) = fw w i) : w.length / gz w ≤ p := by
  obtain ⟨m, hm⟩ := hd
  have e := P_tots h 0 m
  rw [← hm, tot_P hb] at e
  have d1 : (m : Int) ∣ ((w.count 1 : Nat) : Int) := ⟨_, e⟩
  have d1 : m ∣ w.count 1 := Int.natCast_dvd_natCast.mp d1
  have d2 : m ∣ w.length := ⟨p, by rw [hm, Nat.mul_comm]⟩
  have d3 : m ∣ w.count 0 := by
    have := len_zo hb
    rw [← this] at d2
    exact (Nat.dvd_add_iff_left d1).mpr d2
  have d4 : m ∣ gz w := Nat.dvd_gcd d3 d1
  have g0 := gz_pos hb hw
  have le := Nat.le_of_dvd g0 d4
  refine Nat.div_le_of_le_mul ?_
  rw [hm, Nat.mul_comm]
  exact Nat.mul_le_mul_right _ le
end
end Wn

set_option Elab.async false
set_option linter.all false
set_option maxRecDepth 100000
set_option maxHeartbeats 2000000
namespace LW
open PySem L2 Px Py Tv Wn
def cts (w : List Int) (s : Nat) : List Int := (List.range w.length).map fun k => P (fw w) k s
def mx (w : List Int) (s : Nat) : Int := (maxL (cts w s)).getD 0
def mn (w : List Int) (s : Nat) : Int := (minL (cts w s)).getD 0
def badS (w : List Int) (s : Int) : Bool := decide (1 < mx w s.toNat - mn w s.toNat)
def ss (n : Nat) : List Int := (List.range (n - 1)).map fun (k : Nat) => ((k + 1 : Nat) : Int)
def evenG (w : List Int) : Bool := ((ss w.length).find? (badS w)).isNone
theorem ss_mem {n : Nat} {x : Int} (h : x ∈ ss n) : ∃ s : Nat, x = s ∧ 1 ≤ s ∧ s < n := by
  obtain ⟨k, hk, rfl⟩ := List.mem_map.mp h
  rw [List.mem_range] at hk
  exact ⟨k + 1, rfl, by omega, by omega⟩
theorem mem_ss {n s : Nat} (h1 : 1 ≤ s) (h2 : s < n) : (s : Int) ∈ ss n := by
  refine List.mem_map.mpr ⟨s - 1, List.mem_range.mpr (by omega), ?_⟩
  show ((s - 1 + 1 : Nat) : Int) = s
  omega
section
variable {w : List Int} (hw : w ≠ []) (hl : w.length < 1000)
include hw hl
theorem cts_ne (s : Nat) : cts w s ≠ [] := by
  intro h
  have := congrArg List.length h
  simp [cts] at this
  exact hw this
theorem cts_len (s : Nat) : (cts w s).length < 1000000 := by
  have : (cts w s).length = w.length := by simp [cts]
  omega
theorem mx_ok (s : Nat) : maxL (cts w s) = some (mx w s) ∧ mx w s ∈ cts w s ∧ ∀ y ∈ cts w s, y ≤ mx w s := by
  obtain ⟨m, h1, h2, h3⟩ := maxL_ok (cts_ne hw hl s)
  have : mx w s = m := by unfold mx; rw [h1]; rfl
  rw [this]; exact ⟨h1, h2, h3⟩
theorem mn_ok (s : Nat) : minL (cts w s) = some (mn w s) ∧ mn w s ∈ cts w s ∧ ∀ y ∈ cts w s, mn w s ≤ y := by
  obtain ⟨m, h1, h2, h3⟩ := minL_ok (cts_ne hw hl s)
  have : mn w s = m := by unfold mn; rw [h1]; rfl
  rw [this]; exact ⟨h1, h2, h3⟩
theorem parts {s : Nat} (hs : s ≤ w.length) : (compO (fun (x4 : Int) =>  some (some (((cutZ (w ++ w) (some x4) (some ((x4 + (s : Int)))))).sum))) ((List.range w.length).map fun (k : Nat) => (k : Int))).bind shortL = some (cts w s) := by
  rw [compO_len (f := fun x => P (fw w) x.toNat s) (fun x hx => ?_) (by simp; omega)]
  · rw [List.map_map]; rfl
  · obtain ⟨k, hk, rfl⟩ := List.mem_map.mp hx
    rw [List.mem_range] at hk
    rw [show ((k : Nat) : Int) + (s : Int) = ((k + s : Nat) : Int) by omega, cut_mid (by rw [List.length_append]; omega), Nat.add_sub_cancel_left, win (by omega) hs]
    rfl
theorem even_l1 {s : Nat} (hs : s ≤ w.length) : F_is_even_ring_l1 w (w ++ w) s = some (if badS w s = true then .ret false else .nx ()) := by
  unfold F_is_even_ring_l1
  rw [rng0 (by omega), Tv.oB, parts hw hl hs, Tv.oB, (mx_ok hw hl s).1, Tv.oB, (mn_ok hw hl s).1, Tv.oB]
  unfold badS
  rw [Int.toNat_natCast]
  split <;> rfl
theorem even_ring : F_is_even_ring w = some (evenG w) := by
  unfold F_is_even_ring
  rw [catZ_ok (by omega), Tv.oB, Tv.rng1 (by omega), Tv.oB, forS_find (b := badS w) (r := fun _ => false) (fun x hx => ?_), Tv.oB]
  · unfold evenG ss
    cases List.find? (badS w) ((List.range (w.length - 1)).map fun (k : Nat) => ((k + 1 : Nat) : Int)) <;> rfl
  · obtain ⟨s, rfl, h1, h2⟩ := ss_mem (n := w.length) hx
    exact even_l1 hw hl (by omega)
theorem even_iff : evenG w = true ↔ Ev (fw w) := by
  have hn : 0 < w.length := List.length_pos_iff.mpr hw
  unfold evenG
  rw [Option.isNone_iff_eq_none, List.find?_eq_none]
  constructor
  · intro h
    refine Ev_of (fw_per w) hn fun s h1 h2 j hj k hk => ?_
    have := h s (mem_ss h1 h2)
    unfold badS at this
    rw [Int.toNat_natCast, decide_eq_true_iff] at this
    have a := (mx_ok hw hl s).2.2 (P (fw w) j s) (List.mem_map.mpr ⟨j, List.mem_range.mpr hj, rfl⟩)
    have b := (mn_ok hw hl s).2.2 (P (fw w) k s) (List.mem_map.mpr ⟨k, List.mem_range.mpr hk, rfl⟩)
    omega
  · intro h x hx
    obtain ⟨s, rfl, h1, h2⟩ := ss_mem hx
    unfold badS
    rw [Int.toNat_natCast, decide_eq_true_iff]
    obtain ⟨j, _, hj⟩ := List.mem_map.mp (mx_ok hw hl s).2.1
    obtain ⟨k, _, hk⟩ := List.mem_map.mp (mn_ok hw hl s).2.1
    rw [← hj, ← hk]
    have := h s j k
    omega
end

/-! the period, the slope -/
theorem find_first {n q : Nat} {b : Int → Bool} (h1 : 1 ≤ q) (h2 : q ≤ n) (hb : b q = true) (hn : ∀ k : Nat, 1 ≤ k → k < q → b k = false) : ((List.range n).map fun (k : Nat) => ((k + 1 : Nat) : Int)).find? b = some (q : Int) := by
  rw [List.find?_eq_some_iff_append]
  refine ⟨hb, ((List.range n).map fun (k : Nat) => ((k + 1 : Nat) : Int)).take (q - 1), ((List.range n).map fun (k : Nat) => ((k + 1 : Nat) : Int)).drop q, ?_, fun a ha => ?_⟩
  · conv => lhs; rw [← List.take_append_drop (q - 1) ((List.range n).map fun (k : Nat) => ((k + 1 : Nat) : Int))]
    congr 1
    rw [List.drop_eq_getElem_cons (by simp; omega)]
    simp only [List.getElem_map, List.getElem_range]
    rw [show q - 1 + 1 = q by omega]
  · rw [← List.map_take] at ha
    obtain ⟨k, hk, rfl⟩ := List.mem_map.mp ha
    have : k < q - 1 := by
      have := List.mem_take_iff_getElem.mp hk
      obtain ⟨i, hi, e⟩ := this
      simp at e
      omega
    have := hn (k + 1) (by omega) (by omega)
    simpa using this
theorem rot_iff {w : List Int} (hw : w ≠ []) {p : Nat} (hp : p ≤ w.length) : w.drop p ++ w.take p = w ↔ ∀ i, fw w (i + p) = fw w i := by
  constructor
  · intro h i
    have := fw_rot w p hp
    rw [h] at this
    exact (congrFun this i).symm
  · intro h
    have hl : (w.drop p ++ w.take p).length = w.length := by simp; omega
    apply List.ext_getElem hl
    intro i h1 h2
    have e1 := fw_lt (w := w.drop p ++ w.take p) h1
    have e2 := fw_lt (w := w) h2
    rw [← e1, ← e2, fw_rot w p hp]
    exact h i
theorem turned_ok {w : List Int} (hw : w ≠ []) (hl : w.length < 1000) (p : Nat) : F_turned w (p : Int) = some (w.drop (p % w.length) ++ w.take (p % w.length)) := by
  have hn : 0 < w.length := List.length_pos_iff.mpr hw
  unfold F_turned
  rw [if_neg (by simp [hw]), mdZ hn, Tv.oB, Tv.cut_lo, Tv.cut_hi, catZ_ok (by simp; omega), Tv.oB]
section
variable {w : List Int} (hw : w ≠ []) (hl : w.length < 1000)
include hw hl
def bP (w : List Int) (x : Int) : Bool := decide (w.length % x.toNat = 0) && decide (w.drop (x.toNat % w.length) ++ w.take (x.toNat % w.length) = w)
theorem period_l1 {p : Nat} (hp : 1 ≤ p) : F_least_period_l1 w p = some (if bP w p = true then .ret (p : Int) else .nx ()) := by
  have hn : 0 < w.length := List.length_pos_iff.mpr hw
  have hl2 : (w.drop (p % w.length) ++ w.take (p % w.length)).length = w.length := by
    have := Nat.mod_lt p hn
    simp; omega
  unfold F_least_period_l1 bP
  rw [mdZ (by omega), Tv.oB, Int.toNat_natCast]
  by_cases c : w.length % p = 0
  · rw [if_pos (by simp [c]), turned_ok hw hl, Tv.oB, eqT_ok (by omega) (by omega), Tv.oB, Tv.oB, c]
    simp only [decide_true, Bool.true_and]
    split <;> rfl
  · rw [if_neg (by simpa using by omega), Tv.oB]
    simp [c]
theorem period_ok (hb : Bt w) (hE : Ev (fw w)) : F_least_period w = some ((w.length / gz w : Nat) : Int) := by
  have hn : 0 < w.length := List.length_pos_iff.mpr hw
  have g0 := gz_pos hb hw
  have g1 := gz_len hb
  have q0 : 0 < w.length / gz w := by
    rcases Nat.eq_zero_or_pos (w.length / gz w) with c | c
    · rw [c] at g1; omega
    · exact c
  have q1 : w.length / gz w ≤ w.length := Nat.div_le_self ..
  unfold F_least_period
  rw [show ((w.length : Nat) : Int) + 1 = ((w.length + 1 : Nat) : Int) by omega, Tv.rng1 (by omega), Tv.oB, forS_find (b := bP w) (r := fun x => x) (fun x hx => ?_), Tv.oB, Nat.add_sub_cancel]
  · rw [find_first (q := w.length / gz w) q0 q1]
    · unfold bP
      rw [Int.toNat_natCast, Bool.and_eq_true, decide_eq_true_iff, decide_eq_true_iff]
      refine ⟨Nat.mod_eq_zero_of_dvd ⟨gz w, by rw [Nat.mul_comm]; exact g1.symm⟩, ?_⟩
      rw [rot_iff hw (Nat.le_of_lt (Nat.mod_lt _ hn))]
      intro i
      have := per_q hb hw hE i
      rcases Nat.lt_or_ge (w.length / gz w) w.length with c | c
      · rw [Nat.mod_eq_of_lt c]; exact this
      · rw [show w.length / gz w = w.length by omega, Nat.mod_self]; rfl
    · intro k k1 k2
      rw [Bool.eq_false_iff]
      intro h
      unfold bP at h
      rw [Int.toNat_natCast, Bool.and_eq_true, decide_eq_true_iff, decide_eq_true_iff] at h
      obtain ⟨h1, h2⟩ := h
      rw [Nat.mod_eq_of_lt (by omega), rot_iff hw (by omega)] at h2
      have := per_min hb hw k1 (Nat.dvd_of_mod_eq_zero h1) h2
      omega
  · obtain ⟨k, hk, rfl⟩ := List.mem_map.mp hx
    exact period_l1 hw hl (by omega)
theorem is_word (hb : Bt w) : F_is_word w 2 = some true := by
  unfold F_is_word
  rw [if_pos rfl, compO_len (f := fun x => decide (x < 2)) (fun x hx => ?_) (by omega), Tv.oB, Tv.oB]
  · have : (w.map fun x => decide (x < 2)).all id = true := by
      rw [List.all_eq_true]
      intro b hx
      obtain ⟨x, hx2, rfl⟩ := List.mem_map.mp hx
      rcases hb x hx2 with rfl | rfl <;> rfl
    rw [this]
  · rcases hb x hx with rfl | rfl <;> rfl
theorem told_ok (hb : Bt w) (hE : Ev (fw w)) : F_told_slope w = some (some [((w.count 0 / gz w : Nat) : Int), ((w.count 1 / gz w : Nat) : Int)]) := by
  have he : evenG w = true := (even_iff hw hl).mpr hE
  have q1 : w.length / gz w ≤ w.length := Nat.div_le_self ..
  have hbt : Bt (w.take (w.length / gz w)) := fun x hx => hb x (List.mem_of_mem_take hx)
  have c1 : (w.take (w.length / gz w)).count 1 = w.count 1 / gz w := by
    have h1 := per_share hb hw hE 0
    rw [← take_P w q1, sum_os hbt] at h1
    omega
  have c0 : (w.take (w.length / gz w)).count 0 = w.count 0 / gz w := by
    have h2 := len_zo hbt
    have e : w.length / gz w = w.count 0 / gz w + w.count 1 / gz w := by
      refine Nat.div_eq_of_eq_mul_right (gz_pos hb hw) ?_
      have a : gz w * (w.count 0 / gz w) = w.count 0 := Nat.mul_div_cancel' (Nat.gcd_dvd_left ..)
      have b : gz w * (w.count 1 / gz w) = w.count 1 := Nat.mul_div_cancel' (Nat.gcd_dvd_right ..)
      rw [Nat.mul_add, a, b]
      exact (len_zo hb).symm
    rw [List.length_take, Nat.min_eq_left q1, c1] at h2
    omega
  unfold F_told_slope
  rw [eqT_ok (by omega) (by decide), Tv.oB, decide_eq_false hw, if_neg (by decide), is_word hw hl hb, Tv.oB, if_neg (by decide), even_ring hw hl, Tv.oB, Tv.oB, Tv.oB, he, if_neg (by decide)]
  unfold F_root_of
  rw [period_ok hw hl hb hE, Tv.oB, Tv.cut_hi, Tv.oB, cntZ_ok (by simp; omega), Tv.oB, cntZ_ok (by simp; omega), Tv.oB, c0, c1]
end
end LW

set_option Elab.async false
set_option linter.all false
set_option maxRecDepth 100000
set_option maxHeartbeats 2000000
namespace LW
open PySem L2 Px Py Tv Wn
def X1 (s : Int) (w : List Int) : List Int := if s = 0 then Lw w else Rw w
def app (way : List Int) (w : List Int) : List Int := way.foldr X1 w
theorem X1_app (s : Int) (x y : List Int) : X1 s (x ++ y) = X1 s x ++ X1 s y := by
  unfold X1
  split
  · unfold Lw; rw [List.flatMap_append]
  · unfold Rw; rw [List.flatMap_append]
theorem app_app (way : List Int) (x y : List Int) : app way (x ++ y) = app way x ++ app way y := by
  induction way with
  | nil => rfl
  | cons s way ih =>
    show X1 s (app way (x ++ y)) = X1 s (app way x) ++ X1 s (app way y)
    rw [ih, X1_app]
theorem app_nil (way : List Int) : app way [] = [] := by
  induction way with
  | nil => rfl
  | cons s way ih =>
    show X1 s (app way []) = []
    rw [ih]
    unfold X1
    split <;> rfl
theorem app_flat (way : List Int) : ∀ {w : List Int}, Bt w → app way w = w.flatMap fun x => if x = 0 then app way [0] else app way [1]
  | [], _ => app_nil way
  | x :: w, h => by
    rw [List.flatMap_cons, ← app_flat way h.tl]
    have : app way (x :: w) = app way [x] ++ app way w := app_app way [x] w
    rw [this]
    rcases h x (List.mem_cons_self ..) with rfl | rfl
    · rw [if_pos rfl]
    · rw [if_neg (by decide)]
theorem app_snoc (way : List Int) (s : Int) (w : List Int) : app (way ++ [s]) w = app way (X1 s w) := by
  unfold app
  rw [List.foldr_append]; rfl
structure Keeps (w u : List Int) : Prop where
  bt : Bt u
  ne : u ≠ []
  gz : gz u = gz w
  ev : Ev (fw u) ↔ Ev (fw w)
theorem X1_ok (s : Int) {w : List Int} (hb : Bt w) (hw : w ≠ []) : Keeps w (X1 s w) ∧ (X1 s w).length ≤ 2 * w.length := by
  have hn := List.length_pos_iff.mpr hw
  have hz := len_zo hb
  unfold X1
  split
  · obtain ⟨a, b, c⟩ := Bt_L hb
    have hl := len_zo a
    refine ⟨⟨a, ne_of_len (by omega), ?_, Ev_L hb hw⟩, by omega⟩
    unfold Wn.gz
    rw [b, c]
    exact Nat.gcd_add_self_left ..
  · obtain ⟨a, b, c⟩ := Bt_R hb
    have hl := len_zo a
    refine ⟨⟨a, ne_of_len (by omega), ?_, Ev_R hb hw⟩, by omega⟩
    unfold Wn.gz
    rw [b, c]
    exact Nat.gcd_self_add_right ..
theorem app_ok {w : List Int} (hb : Bt w) (hw : w ≠ []) : ∀ way : List Int, Keeps w (app way w) ∧ (app way w).length ≤ 2 ^ way.length * w.length
  | [] => ⟨⟨hb, hw, rfl, Iff.rfl⟩, by simp [app]⟩
  | s :: way => by
    obtain ⟨k, l⟩ := app_ok hb hw way
    obtain ⟨k2, l2⟩ := X1_ok s k.bt k.ne
    refine ⟨⟨k2.bt, k2.ne, k2.gz.trans k.gz, k2.ev.trans k.ev⟩, ?_⟩
    show (X1 s (app way w)).length ≤ 2 ^ (way.length + 1) * w.length
    rw [Nat.pow_succ, Nat.mul_comm (2 ^ way.length) 2, Nat.mul_assoc]
    omega
theorem app_len {w : List Int} (hb : Bt w) (hw : w ≠ []) {way : List Int} (h : way.length ≤ 6) : (app way w).length ≤ 64 * w.length := by
  have := (app_ok hb hw way).2
  have e : 2 ^ way.length ≤ 2 ^ 6 := Nat.pow_le_pow_right (by decide) h
  exact Nat.le_trans this (Nat.mul_le_mul_right _ e)
/-! words put -/
theorem put_loop {A0 A1 : List Int} {c : List Int} : ∀ {r : List Int} {st : List Int}, Bt r → st.length + (r.flatMap fun x => if x = 0 then A0 else A1).length < 1000000 →
    forS (fun x_1 st => F_Substitution_put_l1 [A0, A1] c x_1 st) r st = some (.nx (st ++ r.flatMap fun x => if x = 0 then A0 else A1))
  | [], st, _, _ => by show some (Lo.nx st) = _; rw [List.flatMap_nil, List.append_nil]
  | x :: r, st, hb, hl => by
    rw [List.flatMap_cons, List.length_append] at hl
    unfold forS
    have e : F_Substitution_put_l1 [A0, A1] c x st = some (.nx (st ++ if x = 0 then A0 else A1)) := by
      unfold F_Substitution_put_l1
      rcases hb x (List.mem_cons_self ..) with rfl | rfl
      · rw [show atI [A0, A1] 0 = some A0 from atI_nat (j := 0) rfl, Tv.oB, if_pos rfl]
        rw [if_pos rfl] at hl
        rw [catZ_ok (by omega), Tv.oB]
      · rw [show atI [A0, A1] 1 = some A1 from atI_nat (j := 1) rfl, Tv.oB, if_neg (by decide)]
        rw [if_neg (by decide)] at hl
        rw [catZ_ok (by omega), Tv.oB]
    rw [e, Tv.oB]
    show forS _ r _ = _
    rw [put_loop hb.tl (by rw [List.length_append]; omega), List.flatMap_cons, List.append_assoc]
theorem put_ok {A0 A1 r : List Int} (hb : Bt r) (hl : (r.flatMap fun x => if x = 0 then A0 else A1).length < 1000000) : F_Substitution_put [A0, A1] r = some (r.flatMap fun x => if x = 0 then A0 else A1) := by
  unfold F_Substitution_put
  rw [Tv.oB, put_loop hb (by simpa using hl), Tv.oB]
  rfl
/-- the substitution that a way makes -/
def whole (way : List Int) : List (List Int) := [app way [0], app way [1]]
theorem bt0 : Bt [0] := fun x hx => .inl (by simpa using hx)
theorem bt1 : Bt [1] := fun x hx => .inr (by simpa using hx)
theorem bt01 : Bt [0, 1] := fun x hx => by simpa using hx
theorem put_way {way r : List Int} (hb : Bt r) (hr : r ≠ []) (hl : r.length < 100) (hw : way.length ≤ 6) : F_Substitution_put (whole way) r = some (app way r) := by
  unfold whole
  have := app_len hb hr hw
  rw [put_ok hb (by rw [← app_flat way hb]; omega), ← app_flat way hb]
theorem init_ok {A0 A1 : List Int} (h0 : Bt A0) (h1 : Bt A1) (n0 : A0 ≠ []) (n1 : A1 ≠ []) (l0 : A0.length < 1000) (l1 : A1.length < 1000) : F_Substitution_init [A0, A1] = some [A0, A1] := by
  have e : eqF ((eT (eT eI)) [A0, A1]) ((eT eI) ([])) = some false := by
    unfold eqF
    have s1 : SeqAt.shaped (eT (eT eI) [A0, A1]).py = true := shaped_ok (n := 3) (d := eT (eT eI) [A0, A1]) (by
      refine ⟨by show (2 : Nat) < lim; decide, fun x hx => ?_⟩
      have : ∀ w : List Int, w.length < 1000 → Pl 2 (.tup (w.map eI)) := fun w hw => pl_I (n := 0) (Nat.lt_trans hw (by decide))
      rcases List.mem_cons.mp hx with rfl | hx
      · exact this _ l0
      · rcases List.mem_cons.mp hx with rfl | hx
        · exact this _ l1
        · cases hx) (by decide)
    rw [if_pos ⟨s1, rfl⟩]; rfl
  unfold F_Substitution_init
  rw [compO_len (f := fun x => x) (fun x _ => rfl) (by show (2 : Nat) < _; decide), Tv.oB, List.map_id', e, Tv.oB, if_neg (by decide)]
  rw [compO_len (f := fun _ => true) (fun x hx => ?_) (by show (2 : Nat) < _; decide), Tv.oB, Tv.oB]
  · rfl
  · have k : ∀ w : List Int, Bt w → w ≠ [] → w.length < 1000 → ((F_is_word w 2).bind fun v5 => (if v5 = true then (eqT w ([])).bind fun v6 => some ((!v6)) else some false).bind fun v7 => some (some v7)) = some (some true) := fun w hb hw hl => by
      rw [is_word hw hl hb, Tv.oB, if_pos rfl, eqT_ok (by omega) (by decide), Tv.oB, Tv.oB, decide_eq_false hw]; rfl
    rcases List.mem_cons.mp hx with rfl | hx
    · exact k _ h0 n0 l0
    · rcases List.mem_cons.mp hx with rfl | hx
      · exact k _ h1 n1 l1
      · cases hx
theorem composed_ok {way u0 u1 : List Int} (hw : way.length ≤ 6) (h0 : Bt u0) (h1 : Bt u1) (n0 : u0 ≠ []) (n1 : u1 ≠ []) (l0 : u0.length ≤ 2) (l1 : u1.length ≤ 2) : F_composed_substitution (whole way) [u0, u1] = some [app way u0, app way u1] := by
  unfold F_composed_substitution
  have a0 := app_len h0 n0 hw
  have a1 := app_len h1 n1 hw
  rw [compO_len (f := fun u => app way u) (fun u hu => ?_) (by show (2 : Nat) < _; decide), Tv.oB]
  · show (F_Substitution_init [app way u0, app way u1]).bind _ = _
    rw [init_ok (app_ok h0 n0 way).1.bt (app_ok h1 n1 way).1.bt (app_ok h0 n0 way).1.ne (app_ok h1 n1 way).1.ne (by omega) (by omega), Tv.oB]
  · rcases List.mem_cons.mp hu with rfl | hu
    · rw [put_way h0 n0 (by omega) hw, Tv.oB]
    · rcases List.mem_cons.mp hu with rfl | hu
      · rw [put_way h1 n1 (by omega) hw, Tv.oB]
      · cases hu
theorem way_loop {nx : List D → Int → Option (Int × List D)} {scr : List Int} {tp : List D} {wy : List Int} : ∀ {rest done : List Int}, Bt rest → (done ++ rest).length ≤ 6 →
    forS (fun x_1 st => F_law_l1 nx scr tp wy [[0], [0, 1]] [[0, 1], [1]] x_1 st) rest (whole done) = some (.nx (whole (done ++ rest)))
  | [], done, _, _ => by rw [List.append_nil]; rfl
  | x :: rest, done, hb, hl => by
    rw [List.length_append, List.length_cons] at hl
    unfold forS
    have e : F_law_l1 nx scr tp wy [[0], [0, 1]] [[0, 1], [1]] x (whole done) = some (.nx (whole (done ++ [x]))) := by
      unfold F_law_l1
      rcases hb x (List.mem_cons_self ..) with rfl | rfl
      · rw [if_neg (by decide), composed_ok (by omega) bt0 bt01 (by decide) (by decide) (by decide) (by decide), Tv.oB]
        unfold whole
        rw [app_snoc, app_snoc]; rfl
      · rw [if_pos (by decide), composed_ok (by omega) bt01 bt1 (by decide) (by decide) (by decide) (by decide), Tv.oB]
        unfold whole
        rw [app_snoc, app_snoc]; rfl
    rw [e, Tv.oB]
    show forS _ rest _ = _
    rw [way_loop hb.tl (by simp; omega), List.append_assoc]; rfl
theorem counts_ok {w : List Int} (hl : w.length < 1000) : F_sign_counts w 2 = some [((w.count 0 : Nat) : Int), ((w.count 1 : Nat) : Int)] := by
  unfold F_sign_counts
  rw [show rngZ 0 2 = some [0, 1] by decide, Tv.oB, compO_len (f := fun i => ((w.count i : Nat) : Int)) (fun x _ => by rw [cntZ_ok (by omega), Tv.oB]) (by decide), Tv.oB]
  rfl
theorem eqF_I {l : List Int} (h : l.length < 1000000) : eqF (.tup (l.map eI)) (.tup (l.map eI)) = some true := by
  have := pEqT (xs := l) (ys := l) (b := true) (by rw [eqT_ok h h, decide_eq_true rfl])
  have h2 : (eqF (.tup (l.map eI)) (.tup (l.map eI))).map D.bl = some (.bl true) := this
  cases e : eqF (.tup (l.map eI)) (.tup (l.map eI)) with
  | none => rw [e] at h2; cases h2
  | some b => rw [e] at h2; cases h2; rfl
end LW

set_option Elab.async false
set_option linter.all false
set_option maxRecDepth 100000
set_option maxHeartbeats 2000000
namespace LW
open PySem L2 Px Py Tv Wn
/-! the least turn -/
theorem minW_ok : ∀ (xs : List (List Int)) (x : List Int), minW x xs ∈ x :: xs ∧ ∀ y ∈ x :: xs, minW x xs ≤ y
  | [], x => by
    have e : minW x [] = x := rfl
    rw [e]
    exact ⟨List.mem_cons_self .., fun y hy => by
      have : y = x := by simpa using hy
      rw [this]; exact List.le_refl _⟩
  | z :: xs, x => by
    have e : minW x (z :: xs) = minW (if z < x then z else x) xs := rfl
    rw [e]
    obtain ⟨h1, h2⟩ := minW_ok xs (if z < x then z else x)
    by_cases c : z < x
    · rw [if_pos c] at h1 h2 ⊢
      refine ⟨List.mem_cons_of_mem _ h1, fun y hy => ?_⟩
      rcases List.mem_cons.mp hy with rfl | hy
      · exact List.le_trans (h2 z (List.mem_cons_self ..)) (List.le_of_lt c)
      · exact h2 y hy
    · rw [if_neg c] at h1 h2 ⊢
      refine ⟨?_, fun y hy => ?_⟩
      · rcases List.mem_cons.mp h1 with e | e
        · rw [e]; exact List.mem_cons_self ..
        · exact List.mem_cons_of_mem _ (List.mem_cons_of_mem _ e)
      · rcases List.mem_cons.mp hy with rfl | hy
        · exact h2 y (List.mem_cons_self ..)
        · rcases List.mem_cons.mp hy with rfl | hy
          · exact List.le_trans (h2 x (List.mem_cons_self ..)) (List.not_lt.mp c)
          · exact h2 y (List.mem_cons_of_mem _ hy)
def rot (w : List Int) (k : Nat) : List Int := w.drop (k % w.length) ++ w.take (k % w.length)
theorem rot_len {w : List Int} (hw : w ≠ []) (k : Nat) : (rot w k).length = w.length := by
  have := Nat.mod_lt k (List.length_pos_iff.mpr hw)
  unfold rot
  simp; omega
theorem rot_fw {w : List Int} (hw : w ≠ []) (k : Nat) : fw (rot w k) = fun i => fw w (i + k) := by
  have := Nat.mod_lt k (List.length_pos_iff.mpr hw)
  unfold rot
  rw [fw_rot w _ (by omega)]
  funext i
  unfold fw
  rw [Nat.add_mod_mod]
theorem same_fw {u v : List Int} (h : u.length = v.length) (e : fw u = fw v) : u = v := by
  apply List.ext_getElem h
  intro i h1 h2
  rw [← fw_lt h1, ← fw_lt h2, e]
theorem least_ok {u : List Int} (hu : u ≠ []) (hl : u.length < 1000) : ∃ m, F_least_turn u = some m ∧ (∃ k, m = rot u k) ∧ ∀ k, m ≤ rot u k := by
  have hn : 0 < u.length := List.length_pos_iff.mpr hu
  unfold F_least_turn
  rw [rng0 (by omega), Tv.oB, compO_len (f := fun x => rot u x.toNat) (fun x hx => ?_) (by simp; omega), Tv.oB]
  · rw [List.map_map]
    have e : ((fun x : Int => rot u x.toNat) ∘ fun (k : Nat) => (k : Int)) = rot u := by funext k; rfl
    rw [e]
    have ok : okW ((List.range u.length).map (rot u)) = true := by
      unfold okW
      rw [List.all_eq_true]
      intro x hx
      obtain ⟨k, _, rfl⟩ := List.mem_map.mp hx
      rw [rot_len hu]
      exact decide_eq_true (by omega)
    have all : ∀ k, rot u k ∈ (List.range u.length).map (rot u) := fun k => by
      refine List.mem_map.mpr ⟨k % u.length, List.mem_range.mpr (Nat.mod_lt _ hn), ?_⟩
      unfold rot
      rw [Nat.mod_mod]
    unfold minWZ
    rw [if_pos ok, Tv.oB]
    cases hL : (List.range u.length).map (rot u) with
    | nil => have := all 0; rw [hL] at this; cases this
    | cons x xs =>
      obtain ⟨h1, h2⟩ := minW_ok xs x
      refine ⟨_, rfl, ?_, fun k => ?_⟩
      · have : minWD (x :: xs) [] ∈ (List.range u.length).map (rot u) := by rw [hL]; exact h1
        obtain ⟨k, _, hk⟩ := List.mem_map.mp this
        exact ⟨k, hk.symm⟩
      · have := all k
        rw [hL] at this
        exact h2 _ this
  · obtain ⟨k, hk, rfl⟩ := List.mem_map.mp hx
    rw [turned_ok hu hl, Tv.oB]; rfl
/-- a word that is its least turn is that of its turns too -/
theorem least_turn {w : List Int} (hw : w ≠ []) (hl : w.length < 1000) (h : F_least_turn w = some w) (a : Nat) : F_least_turn (rot w a) = some w := by
  have hn : 0 < w.length := List.length_pos_iff.mpr hw
  have hu : rot w a ≠ [] := by intro e; have := rot_len hw a; rw [e] at this; simp at this; omega
  obtain ⟨m, e1, ⟨k, rfl⟩, h1⟩ := least_ok hu (by rw [rot_len hw]; exact hl)
  obtain ⟨m', e2, -, h2⟩ := least_ok hw hl
  rw [h] at e2
  cases e2
  rw [e1]
  have r1 : rot (rot w a) k = rot w (k + a) := by
    refine same_fw (by rw [rot_len hu, rot_len hw, rot_len hw]) ?_
    rw [rot_fw hu, rot_fw hw, rot_fw hw]
    funext i
    show fw w (i + k + a) = fw w (i + (k + a))
    rw [Nat.add_assoc]
  have r2 : rot (rot w a) (a * (w.length - 1)) = w := by
    refine same_fw (by rw [rot_len hu, rot_len hw]) ?_
    rw [rot_fw hu, rot_fw hw]
    funext i
    show fw w (i + a * (w.length - 1) + a) = fw w i
    obtain ⟨n, hn'⟩ : ∃ n, w.length = n + 1 := ⟨w.length - 1, by omega⟩
    have : i + a * (w.length - 1) + a = i + w.length * a := by
      rw [hn', Nat.add_sub_cancel, Nat.succ_mul, Nat.mul_comm n a]; omega
    rw [this, per_mul (fw_per w)]
  have a1 := h1 (a * (w.length - 1))
  rw [r2] at a1
  have a2 := h2 (k + a)
  rw [← r1] at a2
  exact congrArg some (List.le_antisymm a1 a2)
/-! what is asked of each way, by looking -/
def detF (W : List (List Int)) : Option Int :=
        (F_sign_table W).bind fun v41 =>
        (atI v41 ((0 : Int))).bind fun v42 =>
        (atI v42 ((0 : Int))).bind fun v43 =>
        (atI v41 ((1 : Int))).bind fun v44 =>
        (atI v44 ((1 : Int))).bind fun v45 =>
        (binI .Mult v43 v45).bind fun v46 =>
        (atI v41 ((0 : Int))).bind fun v47 =>
        (atI v47 ((1 : Int))).bind fun v48 =>
        (atI v41 ((1 : Int))).bind fun v49 =>
        (atI v49 ((0 : Int))).bind fun v50 =>
        (binI .Mult v48 v50).bind fun v51 => some (v46 - v51)
def chkWay (way : List Int) : Bool :=
  decide (F_pair_of_way way = some [zs (app way [0, 1]), os (app way [0, 1])]) && (decide (F_put_words way = some (app way [0, 1])) &&
  (decide (F_lower_word (zs (app way [0, 1])) (os (app way [0, 1])) = some (app way [0, 1])) && (decide (F_tree_way (zs (app way [0, 1])) (os (app way [0, 1])) = some way) &&
  (decide (F_is_lower (app way [0]) = some true) && (decide (F_is_lower (app way [1]) = some true) && (decide (detF (whole way) = some 1) &&
  decide (F_least_turn (app way [0, 1]) = some (app way [0, 1]))))))))
def allI : Nat → List Int → (List Int → Bool) → Bool
  | 0, w, p => p w
  | n + 1, w, p => bif allI n (0 :: w) p then allI n (1 :: w) p else false
theorem allI_ok {p : List Int → Bool} : ∀ (n : Nat) (w : List Int), allI n w p = true → ∀ v : List Int, v.length = n → Bt v → p (v ++ w) = true
  | 0, w, h, v, hv, _ => by
    have : v = [] := List.length_eq_zero_iff.mp hv
    subst this; exact h
  | n + 1, w, h, v, hv, hb => by
    have hne : v ≠ [] := by intro e; subst e; cases hv
    unfold allI at h
    have e : v.dropLast ++ [v.getLast hne] = v := List.dropLast_concat_getLast hne
    have h2 : allI n (v.getLast hne :: w) p = true := by
      have := hb _ (List.getLast_mem hne)
      cases h0 : allI n (0 :: w) p with
      | false => rw [h0] at h; cases h
      | true =>
        rw [h0] at h
        have h : allI n (1 :: w) p = true := h
        rcases this with e | e
        · rw [e]; exact h0
        · rw [e]; exact h
    have := allI_ok n _ h2 v.dropLast (by simp [hv]) fun x hx => hb x (List.dropLast_subset _ hx)
    rw [← e, List.append_assoc]
    exact this
theorem ways0 : allI 0 [] chkWay = true := by decide +kernel
theorem ways1 : allI 1 [] chkWay = true := by decide +kernel
theorem ways2 : allI 2 [] chkWay = true := by decide +kernel
theorem ways3 : allI 3 [] chkWay = true := by decide +kernel
theorem ways4 : allI 4 [] chkWay = true := by decide +kernel
theorem ways5 : allI 5 [] chkWay = true := by decide +kernel
theorem ways6 : allI 6 [] chkWay = true := by decide +kernel
theorem ways {way : List Int} (hb : Bt way) (hl : way.length ≤ 6) : chkWay way = true := by
  have key : ∀ n, way.length = n → allI n [] chkWay = true → chkWay way = true := fun n h h2 => by
    have := allI_ok n [] h2 way h hb
    rwa [List.append_nil] at this
  match hn : way.length, hl with
  | 0, _ => exact key 0 hn ways0
  | 1, _ => exact key 1 hn ways1
  | 2, _ => exact key 2 hn ways2
  | 3, _ => exact key 3 hn ways3
  | 4, _ => exact key 4 hn ways4
  | 5, _ => exact key 5 hn ways5
  | 6, _ => exact key 6 hn ways6
/-! the golden row -/
def goldF (t : Int) : Option Bool :=
  (rngZ 0 t).bind fun v70 =>
  (forS (fun x_3 (st : List Int × List Int) => F_law_l3 (fun _ _ => none) [] [] [] x_3 st.1 st.2) v70 ([1, 1], [2, 1])).bind fun o76 =>
  match o76 with
  | .ret b => none
  | .nx s77 =>
    (atI s77.2 ((0 : Int))).bind fun v78 =>
    (atI s77.2 ((1 : Int))).bind fun v79 =>
    (F_middle_word v78 v79).bind fun v80 =>
    (F_fixed_beginning [[0, 1], [0]] ((0 : Int)) ((1 : Int)) (((v80.length : Nat) : Int))).bind fun v81 =>
    (eqT v81 v80).bind fun v82 =>
    (if (!v82) = true then some true else (F_is_primitive [[0, 1], [0]]).bind fun v83 => (if (!v83) = true then some true else (F_fixed_beginning [[0, 1], [0]] ((0 : Int)) ((1 : Int)) ((30 : Int))).bind fun v84 => (F_is_balanced_word v84).bind fun v85 => some ((!decide (v85 = true)))).bind fun v86 => some v86).bind fun v87 => some v87
theorem gold0 : goldF 0 = some false := by decide +kernel
theorem gold1 : goldF 1 = some false := by decide +kernel
theorem gold2 : goldF 2 = some false := by decide +kernel
theorem gold3 : goldF 3 = some false := by decide +kernel
theorem gold4 : goldF 4 = some false := by decide +kernel
theorem golds {t : Nat} (h : t < 5) : goldF t = some false := by
  match t, h with
  | 0, _ => exact gold0
  | 1, _ => exact gold1
  | 2, _ => exact gold2
  | 3, _ => exact gold3
  | 4, _ => exact gold4
end LW

set_option Elab.async false
set_option linter.all false
set_option maxRecDepth 100000
set_option maxHeartbeats 2000000
namespace LW
open PySem L2 Px Py Tv Wn
def NxOk (nx : List D → Int → Option (Int × List D)) : Prop := ∀ st n, GoodN st → 0 < n → n < 1073741824 → ∃ v st', nx st n = some (v, st') ∧ GoodN st' ∧ 0 ≤ v ∧ v < n
theorem bits {nx : List D → Int → Option (Int × List D)} (hx : NxOk nx) : ∀ (xs : List Int) (st : List D), GoodN st → ∃ q, compS (fun (x3 : Int) (st4 : List D) => (nx st4 ((2 : Int))).bind fun z5 => some (some z5.1, z5.2)) xs st = some q ∧ GoodN q.2 ∧ q.1.length = xs.length ∧ Bt q.1
  | [], st, h => ⟨([], st), rfl, h, rfl, fun x hx => by cases hx⟩
  | x :: xs, st, h => by
    obtain ⟨v, st', e, q, v0, v1⟩ := hx st 2 h (by decide) (by decide)
    obtain ⟨r, e2, r1, r2, r3⟩ := bits hx xs st' q
    refine ⟨(v :: r.1, r.2), ?_, r1, by simp [r2], fun y hy => ?_⟩
    · unfold compS
      rw [e, Tv.oB, Tv.oB]
      simp only []
      rw [e2]; rfl
    · rcases List.mem_cons.mp hy with rfl | hy
      · omega
      · exact r3 y hy
theorem eqT2 (a b : Int) : eqT [a, b] [a, b] = some true := by rw [eqT_ok (by simp) (by simp)]; simp
theorem fdZ {a g : Nat} (h : 0 < g) (h2 : g < 1000) : binI .FloorDiv (a : Int) (g : Int) = some ((a / g : Nat) : Int) := by
  show (if 0 < (g : Int) ∧ (g : Int).natAbs.log2 < 9000 then _ else _) = _
  rw [if_pos ⟨by omega, by rw [Int.natAbs_natCast]; have := Nat.log2_le_self g; omega⟩]
  simp
section
variable {nx : List D → Int → Option (Int × List D)} (hx : NxOk nx) {st : List D} (hst : GoodN st) {way : List Int} (hb : Bt way) (hl : way.length ≤ 6)
include hx hst hb hl
theorem j2 : F_law_j2 nx st (app way [0, 1]) = some true := by
  have K := (app_ok bt01 (by decide) way).1
  have L := app_len bt01 (by decide) hl
  simp only [List.length_cons, List.length_nil] at L
  have hn : 0 < (app way [0, 1]).length := List.length_pos_iff.mpr K.ne
  obtain ⟨v, st', e1, q1, v0, v1⟩ := hx st 5 hst (by decide) (by decide)
  obtain ⟨t, rfl⟩ : ∃ t : Nat, v = t := ⟨v.toNat, by omega⟩
  have G := golds (t := t) (by omega)
  unfold goldF at G
  obtain ⟨v70, h70, G⟩ := bindS G
  obtain ⟨o76, h76, G⟩ := bindS G
  cases o76 with
  | ret b => cases G
  | nx s77 =>
    simp only [] at G
    obtain ⟨v78, h78, G⟩ := bindS G
    obtain ⟨v79, h79, G⟩ := bindS G
    obtain ⟨v80, h80, G⟩ := bindS G
    obtain ⟨v81, h81, G⟩ := bindS G
    obtain ⟨v82, h82, G⟩ := bindS G
    obtain ⟨v87, h87, G⟩ := bindS G
    cases G
    unfold F_law_j2
    rw [init_ok bt01 bt0 (by decide) (by decide) (by decide) (by decide), Tv.oB, Tv.oB, Tv.oB, e1, Tv.oB]
    simp only []
    rw [h70, Tv.oB]
    have E : (forS (fun x_3 (st : List Int × List Int) => F_law_l3 nx st' (app way [0, 1]) [[0, 1], [0]] x_3 st.1 st.2) v70 ([1, 1], [2, 1])) = some (.nx s77) := h76
    rw [E, Tv.oB]
    simp only []
    rw [h78, Tv.oB, h79, Tv.oB, h80, Tv.oB, h81, Tv.oB, h82, Tv.oB, h87, Tv.oB, if_neg (by decide)]
    obtain ⟨a, st2, e2, q2, a0, a1⟩ := hx st' ((app way [0, 1]).length : Nat) q1 (by omega) (by omega)
    obtain ⟨a, rfl⟩ : ∃ t : Nat, a = t := ⟨a.toNat, by omega⟩
    rw [e2, Tv.oB, Tv.oB]
    simp only []
    have W := ways hb hl
    unfold chkWay at W
    simp only [Bool.and_eq_true, decide_eq_true_iff, List.all_eq_true, List.mem_range] at W
    have W := W.2.2.2.2.2.2.2
    rw [turned_ok K.ne (by omega), Tv.oB]
    show (F_least_turn (rot (app way [0, 1]) a)).bind _ = _
    rw [least_turn K.ne (by omega) W a, Tv.oB, eqT_ok (by omega) (by omega), Tv.oB, decide_eq_true rfl]
theorem rings (ring : List Int) (hr : Bt ring) (hn : ring ≠ []) (hm : ring.length ≤ 10) : evenG (app way ring) = evenG ring := by
  have K := (app_ok hr hn way).1
  have L := app_len hr hn hl
  rw [Bool.eq_iff_iff, even_iff K.ne (by omega), even_iff hn (by omega)]
  exact K.ev
end
theorem law_F {nx : List D → Int → Option (Int × List D)} (hx : NxOk nx) {p : List Int} (hp : p.length ≤ 63) : F_law nx p = some true := by
  have g0 : GoodN [((eL eI) p), (eI ((0 : Int))), (eI ((0 : Int))), (eI ((86 : Int)))] := ⟨p, 0, 0, 86, rfl, hp, by decide, by decide, by decide⟩
  obtain ⟨v, st, e, q, v0, v1⟩ := hx _ 7 g0 (by decide) (by decide)
  obtain ⟨n, rfl⟩ : ∃ n : Nat, v = n := ⟨v.toNat, by omega⟩
  obtain ⟨r, e2, r1, r2, hb⟩ := bits hx ((List.range n).map fun (k : Nat) => (k : Int)) st q
  simp only [List.length_map, List.length_range] at r2
  have hl : r.1.length ≤ 6 := by omega
  have K := (app_ok bt01 (by decide) r.1).1
  have L := app_len bt01 (by decide) hl
  have L0 := app_len bt0 (by decide) hl
  have L1 := app_len bt1 (by decide) hl
  simp only [List.length_cons, List.length_nil] at L L0 L1
  have W := ways hb hl
  unfold chkWay at W
  simp only [Bool.and_eq_true, decide_eq_true_iff] at W
  obtain ⟨w1, w2, w3, w4, w5, w6, w7, -⟩ := W
  unfold detF at w7
  obtain ⟨v41, h41, w7⟩ := bindS w7
  obtain ⟨v42, h42, w7⟩ := bindS w7
  obtain ⟨v43, h43, w7⟩ := bindS w7
  obtain ⟨v44, h44, w7⟩ := bindS w7
  obtain ⟨v45, h45, w7⟩ := bindS w7
  obtain ⟨v46, h46, w7⟩ := bindS w7
  obtain ⟨v47, h47, w7⟩ := bindS w7
  obtain ⟨v48, h48, w7⟩ := bindS w7
  obtain ⟨v49, h49, w7⟩ := bindS w7
  obtain ⟨v50, h50, w7⟩ := bindS w7
  obtain ⟨v51, h51, w7⟩ := bindS w7
  have w8 := Option.some.inj w7
  have e47 : v47 = v42 := Option.some.inj (h47.symm.trans h42)
  have e49 : v49 = v44 := Option.some.inj (h49.symm.trans h44)
  subst e47 e49
  unfold F_law
  rw [init_ok bt0 bt01 (by decide) (by decide) (by decide) (by decide), Tv.oB, init_ok bt01 bt1 (by decide) (by decide) (by decide) (by decide), Tv.oB, e, Tv.oB]
  simp only []
  rw [rng0 (by omega), Tv.oB, e2, Tv.oB, shortL_ok (by omega), Tv.oB, init_ok bt0 bt1 (by decide) (by decide) (by decide) (by decide), Tv.oB]
  have E : forS (fun x_1 st => F_law_l1 nx p r.2 r.1 [[0], [0, 1]] [[0, 1], [1]] x_1 st) r.1 [[0], [1]] = some (.nx (whole r.1)) := way_loop (rest := r.1) (done := []) hb hl
  rw [E, Tv.oB]
  simp only []
  have zo : ∀ i : Int, True := fun _ => trivial
  have p0 : atI [zs (app r.1 [0, 1]), os (app r.1 [0, 1])] 0 = some (zs (app r.1 [0, 1])) := atI_nat (j := 0) rfl
  have p1 : atI [zs (app r.1 [0, 1]), os (app r.1 [0, 1])] 1 = some (os (app r.1 [0, 1])) := atI_nat (j := 1) rfl
  have m0 : atI (whole r.1) 0 = some (app r.1 [0]) := atI_nat (j := 0) rfl
  have m1 : atI (whole r.1) 1 = some (app r.1 [1]) := atI_nat (j := 1) rfl
  rw [put_way bt01 (by decide) (by decide) hl, Tv.oB, w1, Tv.oB, w2, Tv.oB, eqT_ok (by omega) (by omega), Tv.oB, decide_eq_true rfl, if_neg (by decide), p0, Tv.oB, p1, Tv.oB, w3, Tv.oB, eqT_ok (by omega) (by omega), Tv.oB, decide_eq_true rfl, if_neg (by decide), Tv.oB, Tv.oB, w4, Tv.oB, eqT_ok (by omega) (by omega), Tv.oB, decide_eq_true rfl, if_neg (by decide), counts_ok (by omega), Tv.oB]
  rw [show eqT [((app r.1 [0, 1]).count 0 : Nat), ((app r.1 [0, 1]).count 1 : Nat)] [zs (app r.1 [0, 1]), os (app r.1 [0, 1])] = some true from eqT2 _ _, Tv.oB, Tv.oB, Tv.oB, Tv.oB, if_neg (by decide)]
  rw [m0, Tv.oB, w5, Tv.oB, decide_eq_true rfl, if_neg (by decide), m1, Tv.oB, w6, Tv.oB, decide_eq_true rfl, if_neg (by decide), Tv.oB, Tv.oB, catZ_ok (by omega), Tv.oB, ← app_app, show ([0] ++ [1] : List Int) = [0, 1] from rfl, eqT_ok (by omega) (by omega), Tv.oB, decide_eq_true rfl, Tv.oB, Tv.oB, if_neg (by decide)]
  rw [h41, Tv.oB, h42, Tv.oB, h43, Tv.oB, h44, Tv.oB, h45, Tv.oB, h46, Tv.oB, Tv.oB, h48, Tv.oB, Tv.oB, h50, Tv.oB, h51, Tv.oB, w8, if_neg (by decide)]
  obtain ⟨a, sta, ea, qa, a0, a1⟩ := hx _ 5 r1 (by decide) (by decide)
  rw [ea, Tv.oB]
  simp only []
  obtain ⟨b, stb, eb, qb, b0, b1⟩ := hx _ 5 qa (by decide) (by decide)
  rw [eb, Tv.oB, Tv.oB, Tv.oB]
  simp only []
  obtain ⟨m, hm⟩ : ∃ m : Nat, 1 + a + (1 + b) = m := ⟨(1 + a + (1 + b)).toNat, by omega⟩
  obtain ⟨s, e3, s1, s2, hr⟩ := bits hx ((List.range m).map fun (k : Nat) => (k : Int)) stb qb
  simp only [List.length_map, List.length_range] at s2
  have rne : s.1 ≠ [] := by intro h; rw [h] at s2; simp at s2; omega
  have rl : s.1.length ≤ 10 := by omega
  have KR := (app_ok hr rne r.1).1
  have LR := app_len hr rne hl
  rw [hm, rng0 (by omega), Tv.oB, e3, Tv.oB, shortL_ok (by omega), Tv.oB, put_way hr rne (by omega) hl, Tv.oB, even_ring KR.ne (by omega), Tv.oB, even_ring rne (by omega), Tv.oB, rings hx s1 hb hl s.1 hr rne rl, decide_eq_true rfl, if_neg (by decide), Tv.oB]
  have J := j2 hx s1 hb hl
  split
  · rename_i he
    have hE := (even_iff rne (by omega)).mp he
    have hE2 := KR.ev.mpr hE
    have g1 := gz_pos hr rne
    have g2 := gz_len hr
    have g3 : gz s.1 < 1000 := by
      have := Nat.le_of_dvd (List.length_pos_iff.mpr rne) ⟨_, g2.symm⟩
      omega
    have q0 : atI [((s.1.count 0 / gz s.1 : Nat) : Int), ((s.1.count 1 / gz s.1 : Nat) : Int)] 1 = some ((s.1.count 1 / gz s.1 : Nat) : Int) := atI_nat (j := 1) rfl
    have c0 : atI [(((app r.1 s.1).count 0 : Nat) : Int), (((app r.1 s.1).count 1 : Nat) : Int)] 0 = some (((app r.1 s.1).count 0 : Nat) : Int) := atI_nat (j := 0) rfl
    have c1 : atI [(((app r.1 s.1).count 0 : Nat) : Int), (((app r.1 s.1).count 1 : Nat) : Int)] 1 = some (((app r.1 s.1).count 1 : Nat) : Int) := atI_nat (j := 1) rfl
    rw [told_ok rne (by omega) hr hE, Tv.oB, Tv.oB, counts_ok (by omega), Tv.oB, Tv.oB, q0, Tv.oB]
    have size : (if decide ((0 : Int) < ((s.1.count 1 / gz s.1 : Nat) : Int)) = true then (some ((s.1.count 1 / gz s.1 : Nat) : Int)).bind fun v99 => (binI .FloorDiv s.1.sum v99).bind fun v100 => some v100 else some (((s.1.length : Nat) : Int))) = some ((gz s.1 : Nat) : Int) := by
      have o1 : gz s.1 * (s.1.count 1 / gz s.1) = s.1.count 1 := Nat.mul_div_cancel' (Nat.gcd_dvd_right ..)
      have zo := len_zo hr
      have le := Nat.div_le_self (s.1.count 1) (gz s.1)
      generalize s.1.count 1 / gz s.1 = d at *
      by_cases c : 0 < d
      · rw [if_pos (decide_eq_true (by omega)), Tv.oB, sum_os hr, fdZ c (by omega), Tv.oB]
        have : s.1.count 1 / d = gz s.1 := Nat.div_eq_of_eq_mul_left c o1.symm
        rw [this]
      · have z : d = 0 := by omega
        subst z
        rw [if_neg (by simp)]
        rw [Nat.mul_zero] at o1
        have : gz s.1 = s.1.length := by unfold gz; rw [← o1, Nat.gcd_zero_right]; omega
        rw [this]
    rw [size, Tv.oB, told_ok KR.ne (by omega) KR.bt hE2, Tv.oB, c0, Tv.oB, fdZ g1 g3, Tv.oB, c1, Tv.oB, fdZ g1 g3, Tv.oB, KR.gz]
    have EQ : eqF (eO (eT eI) (some [(((app r.1 s.1).count 0 / gz s.1 : Nat) : Int), (((app r.1 s.1).count 1 / gz s.1 : Nat) : Int)])) (eT eI [(((app r.1 s.1).count 0 / gz s.1 : Nat) : Int), (((app r.1 s.1).count 1 / gz s.1 : Nat) : Int)]) = some true := eqF_I (by simp)
    rw [EQ, Tv.oB, if_neg (by decide)]
    exact J
  · exact J
theorem nx_eq : d_law_next = Py.d_law_next := by rfl
theorem nx_ok (k : Nat) : NxOk (drawF (runDef (sigOf defs k) d_law_next)) := fun st n hg h1 h2 => by
  rw [nx_eq]
  exact drawF_next hg h1 h2
end LW

set_option Elab.async false
set_option linter.all false
set_option maxRecDepth 100000
set_option maxHeartbeats 2000000
namespace LW
open PySem L2 Px Py Tv Wn
theorem law_true : Px.Law defs d_law 5 := fun ns hl => by
  have h := w_law (k := 0) (law_F (nx_ok 4) hl)
  unfold callV callD at h
  rw [find_run fnd_law] at h
  obtain ⟨⟨s, outs⟩, e, e2⟩ := Out.bind_ok h
  cases e2
  exact ⟨outs, e⟩
end LW

namespace LW
open PySem PySem.Spec PyProof.Rows L2 Px
/-! ### the text -/
def topS (i : Nat) : Stmt := PySem.Challenge.pw_shiftwright_k86_whole_slopes_and_substit.main.body.getD i (.Pass ⟨0, 0, 0, 0⟩)
abbrev s_d_is_number : Stmt := topS 4
abbrev s_d_is_word : Stmt := topS 5
abbrev s_d_turned : Stmt := topS 6
abbrev s_d_least_turn : Stmt := topS 7
abbrev s_d_least_period : Stmt := topS 8
abbrev s_d_root_of : Stmt := topS 9
abbrev s_d_common_divisor : Stmt := topS 10
abbrev s_d_check_steps : Stmt := topS 12
abbrev s_d_lower_word : Stmt := topS 13
abbrev s_d_middle_word : Stmt := topS 14
abbrev s_d_is_even_ring : Stmt := topS 15
abbrev s_d_told_slope : Stmt := topS 16
abbrev s_d_is_lower : Stmt := topS 17
abbrev s_d_tree_way : Stmt := topS 18
abbrev s_d_pair_of_way : Stmt := topS 19
abbrev s_d_put_words : Stmt := topS 20
abbrev s_d_times_table : Stmt := topS 22
abbrev s_d_sign_table : Stmt := topS 25
abbrev s_d_sign_counts : Stmt := topS 26
abbrev s_d_is_primitive : Stmt := topS 27
abbrev s_d_composed_substitution : Stmt := topS 28
abbrev s_d_fixed_beginning : Stmt := topS 29
abbrev s_d_is_balanced_word : Stmt := topS 30
abbrev s_d_law_next : Stmt := topS 32
abbrev s_d_law : Stmt := topS 33
abbrev s_d_Substitution_init : Stmt := inClass (topS 24) 0
abbrev s_d_Substitution_put : Stmt := inClass (topS 24) 2
abbrev s_d_Substitution_put_often : Stmt := inClass (topS 24) 3
theorem sc_d_is_number : FnScope d_is_number.N (d_is_number.N.take d_is_number.np) (defScope s_d_is_number) := ⟨rfl, rfl, rfl, by decide +kernel, rfl, by decide +kernel, by decide +kernel⟩
theorem ck_d_is_number : ckSs 60 d_is_number.N (defScope s_d_is_number) d_is_number.body (defBody s_d_is_number) = true := by decide +kernel
theorem bd_d_is_number : ∀ (kV doc pm : Value) (an : Option Addr) (cdv ct : Value) (us : List Value), us.length = (d_is_number.N.take d_is_number.np).length → bindArgs (PySem.W.fnOf d_is_number.nm d_is_number.nm (defArgs s_d_is_number) (defBody s_d_is_number) (defScope s_d_is_number) .none kV doc pm an cdv ct) ⟨us, []⟩ = pure ((d_is_number.N.take d_is_number.np).zip us) := fun _ _ _ _ _ _ us hl => match us, hl with | [_], _ => rfl
theorem sc_d_is_word : FnScope d_is_word.N (d_is_word.N.take d_is_word.np) (defScope s_d_is_word) := ⟨rfl, rfl, rfl, by decide +kernel, rfl, by decide +kernel, by decide +kernel⟩
theorem ck_d_is_word : ckSs 60 d_is_word.N (defScope s_d_is_word) d_is_word.body (defBody s_d_is_word) = true := by decide +kernel
theorem bd_d_is_word : ∀ (kV doc pm : Value) (an : Option Addr) (cdv ct : Value) (us : List Value), us.length = (d_is_word.N.take d_is_word.np).length → bindArgs (PySem.W.fnOf d_is_word.nm d_is_word.nm (defArgs s_d_is_word) (defBody s_d_is_word) (defScope s_d_is_word) .none kV doc pm an cdv ct) ⟨us, []⟩ = pure ((d_is_word.N.take d_is_word.np).zip us) := fun _ _ _ _ _ _ us hl => match us, hl with | [_, _], _ => rfl
theorem sc_d_turned : FnScope d_turned.N (d_turned.N.take d_turned.np) (defScope s_d_turned) := ⟨rfl, rfl, rfl, by decide +kernel, rfl, by decide +kernel, by decide +kernel⟩
theorem ck_d_turned : ckSs 60 d_turned.N (defScope s_d_turned) d_turned.body (defBody s_d_turned) = true := by decide +kernel
theorem bd_d_turned : ∀ (kV doc pm : Value) (an : Option Addr) (cdv ct : Value) (us : List Value), us.length = (d_turned.N.take d_turned.np).length → bindArgs (PySem.W.fnOf d_turned.nm d_turned.nm (defArgs s_d_turned) (defBody s_d_turned) (defScope s_d_turned) .none kV doc pm an cdv ct) ⟨us, []⟩ = pure ((d_turned.N.take d_turned.np).zip us) := fun _ _ _ _ _ _ us hl => match us, hl with | [_, _], _ => rfl
theorem sc_d_least_turn : FnScope d_least_turn.N (d_least_turn.N.take d_least_turn.np) (defScope s_d_least_turn) := ⟨rfl, rfl, rfl, by decide +kernel, rfl, by decide +kernel, by decide +kernel⟩
theorem ck_d_least_turn : ckSs 60 d_least_turn.N (defScope s_d_least_turn) d_least_turn.body (defBody s_d_least_turn) = true := by decide +kernel
theorem bd_d_least_turn : ∀ (kV doc pm : Value) (an : Option Addr) (cdv ct : Value) (us : List Value), us.length = (d_least_turn.N.take d_least_turn.np).length → bindArgs (PySem.W.fnOf d_least_turn.nm d_least_turn.nm (defArgs s_d_least_turn) (defBody s_d_least_turn) (defScope s_d_least_turn) .none kV doc pm an cdv ct) ⟨us, []⟩ = pure ((d_least_turn.N.take d_least_turn.np).zip us) := fun _ _ _ _ _ _ us hl => match us, hl with | [_], _ => rfl
theorem sc_d_least_period : FnScope d_least_period.N (d_least_period.N.take d_least_period.np) (defScope s_d_least_period) := ⟨rfl, rfl, rfl, by decide +kernel, rfl, by decide +kernel, by decide +kernel⟩
theorem ck_d_least_period : ckSs 60 d_least_period.N (defScope s_d_least_period) d_least_period.body (defBody s_d_least_period) = true := by decide +kernel
theorem bd_d_least_period : ∀ (kV doc pm : Value) (an : Option Addr) (cdv ct : Value) (us : List Value), us.length = (d_least_period.N.take d_least_period.np).length → bindArgs (PySem.W.fnOf d_least_period.nm d_least_period.nm (defArgs s_d_least_period) (defBody s_d_least_period) (defScope s_d_least_period) .none kV doc pm an cdv ct) ⟨us, []⟩ = pure ((d_least_period.N.take d_least_period.np).zip us) := fun _ _ _ _ _ _ us hl => match us, hl with | [_], _ => rfl
theorem sc_d_root_of : FnScope d_root_of.N (d_root_of.N.take d_root_of.np) (defScope s_d_root_of) := ⟨rfl, rfl, rfl, by decide +kernel, rfl, by decide +kernel, by decide +kernel⟩
theorem ck_d_root_of : ckSs 60 d_root_of.N (defScope s_d_root_of) d_root_of.body (defBody s_d_root_of) = true := by decide +kernel
theorem bd_d_root_of : ∀ (kV doc pm : Value) (an : Option Addr) (cdv ct : Value) (us : List Value), us.length = (d_root_of.N.take d_root_of.np).length → bindArgs (PySem.W.fnOf d_root_of.nm d_root_of.nm (defArgs s_d_root_of) (defBody s_d_root_of) (defScope s_d_root_of) .none kV doc pm an cdv ct) ⟨us, []⟩ = pure ((d_root_of.N.take d_root_of.np).zip us) := fun _ _ _ _ _ _ us hl => match us, hl with | [_], _ => rfl
theorem sc_d_common_divisor : FnScope d_common_divisor.N (d_common_divisor.N.take d_common_divisor.np) (defScope s_d_common_divisor) := ⟨rfl, rfl, rfl, by decide +kernel, rfl, by decide +kernel, by decide +kernel⟩
theorem ck_d_common_divisor : ckSs 60 d_common_divisor.N (defScope s_d_common_divisor) d_common_divisor.body (defBody s_d_common_divisor) = true := by decide +kernel
theorem bd_d_common_divisor : ∀ (kV doc pm : Value) (an : Option Addr) (cdv ct : Value) (us : List Value), us.length = (d_common_divisor.N.take d_common_divisor.np).length → bindArgs (PySem.W.fnOf d_common_divisor.nm d_common_divisor.nm (defArgs s_d_common_divisor) (defBody s_d_common_divisor) (defScope s_d_common_divisor) .none kV doc pm an cdv ct) ⟨us, []⟩ = pure ((d_common_divisor.N.take d_common_divisor.np).zip us) := fun _ _ _ _ _ _ us hl => match us, hl with | [_, _], _ => rfl
theorem sc_d_check_steps : FnScope d_check_steps.N (d_check_steps.N.take d_check_steps.np) (defScope s_d_check_steps) := ⟨rfl, rfl, rfl, by decide +kernel, rfl, by decide +kernel, by decide +kernel⟩
theorem ck_d_check_steps : ckSs 60 d_check_steps.N (defScope s_d_check_steps) d_check_steps.body (defBody s_d_check_steps) = true := by decide +kernel
theorem bd_d_check_steps : ∀ (kV doc pm : Value) (an : Option Addr) (cdv ct : Value) (us : List Value), us.length = (d_check_steps.N.take d_check_steps.np).length → bindArgs (PySem.W.fnOf d_check_steps.nm d_check_steps.nm (defArgs s_d_check_steps) (defBody s_d_check_steps) (defScope s_d_check_steps) .none kV doc pm an cdv ct) ⟨us, []⟩ = pure ((d_check_steps.N.take d_check_steps.np).zip us) := fun _ _ _ _ _ _ us hl => match us, hl with | [_, _], _ => rfl
theorem sc_d_lower_word : FnScope d_lower_word.N (d_lower_word.N.take d_lower_word.np) (defScope s_d_lower_word) := ⟨rfl, rfl, rfl, by decide +kernel, rfl, by decide +kernel, by decide +kernel⟩
theorem ck_d_lower_word : ckSs 60 d_lower_word.N (defScope s_d_lower_word) d_lower_word.body (defBody s_d_lower_word) = true := by decide +kernel
theorem bd_d_lower_word : ∀ (kV doc pm : Value) (an : Option Addr) (cdv ct : Value) (us : List Value), us.length = (d_lower_word.N.take d_lower_word.np).length → bindArgs (PySem.W.fnOf d_lower_word.nm d_lower_word.nm (defArgs s_d_lower_word) (defBody s_d_lower_word) (defScope s_d_lower_word) .none kV doc pm an cdv ct) ⟨us, []⟩ = pure ((d_lower_word.N.take d_lower_word.np).zip us) := fun _ _ _ _ _ _ us hl => match us, hl with | [_, _], _ => rfl
theorem sc_d_middle_word : FnScope d_middle_word.N (d_middle_word.N.take d_middle_word.np) (defScope s_d_middle_word) := ⟨rfl, rfl, rfl, by decide +kernel, rfl, by decide +kernel, by decide +kernel⟩
theorem ck_d_middle_word : ckSs 60 d_middle_word.N (defScope s_d_middle_word) d_middle_word.body (defBody s_d_middle_word) = true := by decide +kernel
theorem bd_d_middle_word : ∀ (kV doc pm : Value) (an : Option Addr) (cdv ct : Value) (us : List Value), us.length = (d_middle_word.N.take d_middle_word.np).length → bindArgs (PySem.W.fnOf d_middle_word.nm d_middle_word.nm (defArgs s_d_middle_word) (defBody s_d_middle_word) (defScope s_d_middle_word) .none kV doc pm an cdv ct) ⟨us, []⟩ = pure ((d_middle_word.N.take d_middle_word.np).zip us) := fun _ _ _ _ _ _ us hl => match us, hl with | [_, _], _ => rfl
theorem sc_d_is_even_ring : FnScope d_is_even_ring.N (d_is_even_ring.N.take d_is_even_ring.np) (defScope s_d_is_even_ring) := ⟨rfl, rfl, rfl, by decide +kernel, rfl, by decide +kernel, by decide +kernel⟩
theorem ck_d_is_even_ring : ckSs 60 d_is_even_ring.N (defScope s_d_is_even_ring) d_is_even_ring.body (defBody s_d_is_even_ring) = true := by decide +kernel
theorem bd_d_is_even_ring : ∀ (kV doc pm : Value) (an : Option Addr) (cdv ct : Value) (us : List Value), us.length = (d_is_even_ring.N.take d_is_even_ring.np).length → bindArgs (PySem.W.fnOf d_is_even_ring.nm d_is_even_ring.nm (defArgs s_d_is_even_ring) (defBody s_d_is_even_ring) (defScope s_d_is_even_ring) .none kV doc pm an cdv ct) ⟨us, []⟩ = pure ((d_is_even_ring.N.take d_is_even_ring.np).zip us) := fun _ _ _ _ _ _ us hl => match us, hl with | [_], _ => rfl
theorem sc_d_told_slope : FnScope d_told_slope.N (d_told_slope.N.take d_told_slope.np) (defScope s_d_told_slope) := ⟨rfl, rfl, rfl, by decide +kernel, rfl, by decide +kernel, by decide +kernel⟩
theorem ck_d_told_slope : ckSs 60 d_told_slope.N (defScope s_d_told_slope) d_told_slope.body (defBody s_d_told_slope) = true := by decide +kernel
theorem bd_d_told_slope : ∀ (kV doc pm : Value) (an : Option Addr) (cdv ct : Value) (us : List Value), us.length = (d_told_slope.N.take d_told_slope.np).length → bindArgs (PySem.W.fnOf d_told_slope.nm d_told_slope.nm (defArgs s_d_told_slope) (defBody s_d_told_slope) (defScope s_d_told_slope) .none kV doc pm an cdv ct) ⟨us, []⟩ = pure ((d_told_slope.N.take d_told_slope.np).zip us) := fun _ _ _ _ _ _ us hl => match us, hl with | [_], _ => rfl
theorem sc_d_is_lower : FnScope d_is_lower.N (d_is_lower.N.take d_is_lower.np) (defScope s_d_is_lower) := ⟨rfl, rfl, rfl, by decide +kernel, rfl, by decide +kernel, by decide +kernel⟩
theorem ck_d_is_lower : ckSs 60 d_is_lower.N (defScope s_d_is_lower) d_is_lower.body (defBody s_d_is_lower) = true := by decide +kernel
theorem bd_d_is_lower : ∀ (kV doc pm : Value) (an : Option Addr) (cdv ct : Value) (us : List Value), us.length = (d_is_lower.N.take d_is_lower.np).length → bindArgs (PySem.W.fnOf d_is_lower.nm d_is_lower.nm (defArgs s_d_is_lower) (defBody s_d_is_lower) (defScope s_d_is_lower) .none kV doc pm an cdv ct) ⟨us, []⟩ = pure ((d_is_lower.N.take d_is_lower.np).zip us) := fun _ _ _ _ _ _ us hl => match us, hl with | [_], _ => rfl
theorem sc_d_tree_way : FnScope d_tree_way.N (d_tree_way.N.take d_tree_way.np) (defScope s_d_tree_way) := ⟨rfl, rfl, rfl, by decide +kernel, rfl, by decide +kernel, by decide +kernel⟩
theorem ck_d_tree_way : ckSs 60 d_tree_way.N (defScope s_d_tree_way) d_tree_way.body (defBody s_d_tree_way) = true := by decide +kernel
theorem bd_d_tree_way : ∀ (kV doc pm : Value) (an : Option Addr) (cdv ct : Value) (us : List Value), us.length = (d_tree_way.N.take d_tree_way.np).length → bindArgs (PySem.W.fnOf d_tree_way.nm d_tree_way.nm (defArgs s_d_tree_way) (defBody s_d_tree_way) (defScope s_d_tree_way) .none kV doc pm an cdv ct) ⟨us, []⟩ = pure ((d_tree_way.N.take d_tree_way.np).zip us) := fun _ _ _ _ _ _ us hl => match us, hl with | [_, _], _ => rfl
theorem sc_d_pair_of_way : FnScope d_pair_of_way.N (d_pair_of_way.N.take d_pair_of_way.np) (defScope s_d_pair_of_way) := ⟨rfl, rfl, rfl, by decide +kernel, rfl, by decide +kernel, by decide +kernel⟩
theorem ck_d_pair_of_way : ckSs 60 d_pair_of_way.N (defScope s_d_pair_of_way) d_pair_of_way.body (defBody s_d_pair_of_way) = true := by decide +kernel
theorem bd_d_pair_of_way : ∀ (kV doc pm : Value) (an : Option Addr) (cdv ct : Value) (us : List Value), us.length = (d_pair_of_way.N.take d_pair_of_way.np).length → bindArgs (PySem.W.fnOf d_pair_of_way.nm d_pair_of_way.nm (defArgs s_d_pair_of_way) (defBody s_d_pair_of_way) (defScope s_d_pair_of_way) .none kV doc pm an cdv ct) ⟨us, []⟩ = pure ((d_pair_of_way.N.take d_pair_of_way.np).zip us) := fun _ _ _ _ _ _ us hl => match us, hl with | [_], _ => rfl
theorem sc_d_put_words : FnScope d_put_words.N (d_put_words.N.take d_put_words.np) (defScope s_d_put_words) := ⟨rfl, rfl, rfl, by decide +kernel, rfl, by decide +kernel, by decide +kernel⟩
theorem ck_d_put_words : ckSs 60 d_put_words.N (defScope s_d_put_words) d_put_words.body (defBody s_d_put_words) = true := by decide +kernel
theorem bd_d_put_words : ∀ (kV doc pm : Value) (an : Option Addr) (cdv ct : Value) (us : List Value), us.length = (d_put_words.N.take d_put_words.np).length → bindArgs (PySem.W.fnOf d_put_words.nm d_put_words.nm (defArgs s_d_put_words) (defBody s_d_put_words) (defScope s_d_put_words) .none kV doc pm an cdv ct) ⟨us, []⟩ = pure ((d_put_words.N.take d_put_words.np).zip us) := fun _ _ _ _ _ _ us hl => match us, hl with | [_], _ => rfl
theorem sc_d_times_table : FnScope d_times_table.N (d_times_table.N.take d_times_table.np) (defScope s_d_times_table) := ⟨rfl, rfl, rfl, by decide +kernel, rfl, by decide +kernel, by decide +kernel⟩
theorem ck_d_times_table : ckSs 60 d_times_table.N (defScope s_d_times_table) d_times_table.body (defBody s_d_times_table) = true := by decide +kernel
theorem bd_d_times_table : ∀ (kV doc pm : Value) (an : Option Addr) (cdv ct : Value) (us : List Value), us.length = (d_times_table.N.take d_times_table.np).length → bindArgs (PySem.W.fnOf d_times_table.nm d_times_table.nm (defArgs s_d_times_table) (defBody s_d_times_table) (defScope s_d_times_table) .none kV doc pm an cdv ct) ⟨us, []⟩ = pure ((d_times_table.N.take d_times_table.np).zip us) := fun _ _ _ _ _ _ us hl => match us, hl with | [_, _], _ => rfl
theorem sc_d_sign_table : FnScope d_sign_table.N (d_sign_table.N.take d_sign_table.np) (defScope s_d_sign_table) := ⟨rfl, rfl, rfl, by decide +kernel, rfl, by decide +kernel, by decide +kernel⟩
theorem ck_d_sign_table : ckSs 60 d_sign_table.N (defScope s_d_sign_table) d_sign_table.body (defBody s_d_sign_table) = true := by decide +kernel
theorem bd_d_sign_table : ∀ (kV doc pm : Value) (an : Option Addr) (cdv ct : Value) (us : List Value), us.length = (d_sign_table.N.take d_sign_table.np).length → bindArgs (PySem.W.fnOf d_sign_table.nm d_sign_table.nm (defArgs s_d_sign_table) (defBody s_d_sign_table) (defScope s_d_sign_table) .none kV doc pm an cdv ct) ⟨us, []⟩ = pure ((d_sign_table.N.take d_sign_table.np).zip us) := fun _ _ _ _ _ _ us hl => match us, hl with | [_], _ => rfl
theorem sc_d_sign_counts : FnScope d_sign_counts.N (d_sign_counts.N.take d_sign_counts.np) (defScope s_d_sign_counts) := ⟨rfl, rfl, rfl, by decide +kernel, rfl, by decide +kernel, by decide +kernel⟩
theorem ck_d_sign_counts : ckSs 60 d_sign_counts.N (defScope s_d_sign_counts) d_sign_counts.body (defBody s_d_sign_counts) = true := by decide +kernel
theorem bd_d_sign_counts : ∀ (kV doc pm : Value) (an : Option Addr) (cdv ct : Value) (us : List Value), us.length = (d_sign_counts.N.take d_sign_counts.np).length → bindArgs (PySem.W.fnOf d_sign_counts.nm d_sign_counts.nm (defArgs s_d_sign_counts) (defBody s_d_sign_counts) (defScope s_d_sign_counts) .none kV doc pm an cdv ct) ⟨us, []⟩ = pure ((d_sign_counts.N.take d_sign_counts.np).zip us) := fun _ _ _ _ _ _ us hl => match us, hl with | [_, _], _ => rfl
theorem sc_d_is_primitive : FnScope d_is_primitive.N (d_is_primitive.N.take d_is_primitive.np) (defScope s_d_is_primitive) := ⟨rfl, rfl, rfl, by decide +kernel, rfl, by decide +kernel, by decide +kernel⟩
theorem ck_d_is_primitive : ckSs 60 d_is_primitive.N (defScope s_d_is_primitive) d_is_primitive.body (defBody s_d_is_primitive) = true := by decide +kernel
theorem bd_d_is_primitive : ∀ (kV doc pm : Value) (an : Option Addr) (cdv ct : Value) (us : List Value), us.length = (d_is_primitive.N.take d_is_primitive.np).length → bindArgs (PySem.W.fnOf d_is_primitive.nm d_is_primitive.nm (defArgs s_d_is_primitive) (defBody s_d_is_primitive) (defScope s_d_is_primitive) .none kV doc pm an cdv ct) ⟨us, []⟩ = pure ((d_is_primitive.N.take d_is_primitive.np).zip us) := fun _ _ _ _ _ _ us hl => match us, hl with | [_], _ => rfl
theorem sc_d_composed_substitution : FnScope d_composed_substitution.N (d_composed_substitution.N.take d_composed_substitution.np) (defScope s_d_composed_substitution) := ⟨rfl, rfl, rfl, by decide +kernel, rfl, by decide +kernel, by decide +kernel⟩
theorem ck_d_composed_substitution : ckSs 60 d_composed_substitution.N (defScope s_d_composed_substitution) d_composed_substitution.body (defBody s_d_composed_substitution) = true := by decide +kernel
theorem bd_d_composed_substitution : ∀ (kV doc pm : Value) (an : Option Addr) (cdv ct : Value) (us : List Value), us.length = (d_composed_substitution.N.take d_composed_substitution.np).length → bindArgs (PySem.W.fnOf d_composed_substitution.nm d_composed_substitution.nm (defArgs s_d_composed_substitution) (defBody s_d_composed_substitution) (defScope s_d_composed_substitution) .none kV doc pm an cdv ct) ⟨us, []⟩ = pure ((d_composed_substitution.N.take d_composed_substitution.np).zip us) := fun _ _ _ _ _ _ us hl => match us, hl with | [_, _], _ => rfl
theorem sc_d_fixed_beginning : FnScope d_fixed_beginning.N (d_fixed_beginning.N.take d_fixed_beginning.np) (defScope s_d_fixed_beginning) := ⟨rfl, rfl, rfl, by decide +kernel, rfl, by decide +kernel, by decide +kernel⟩
theorem ck_d_fixed_beginning : ckSs 60 d_fixed_beginning.N (defScope s_d_fixed_beginning) d_fixed_beginning.body (defBody s_d_fixed_beginning) = true := by decide +kernel
theorem bd_d_fixed_beginning : ∀ (kV doc pm : Value) (an : Option Addr) (cdv ct : Value) (us : List Value), us.length = (d_fixed_beginning.N.take d_fixed_beginning.np).length → bindArgs (PySem.W.fnOf d_fixed_beginning.nm d_fixed_beginning.nm (defArgs s_d_fixed_beginning) (defBody s_d_fixed_beginning) (defScope s_d_fixed_beginning) .none kV doc pm an cdv ct) ⟨us, []⟩ = pure ((d_fixed_beginning.N.take d_fixed_beginning.np).zip us) := fun _ _ _ _ _ _ us hl => match us, hl with | [_, _, _, _], _ => rfl
theorem sc_d_is_balanced_word : FnScope d_is_balanced_word.N (d_is_balanced_word.N.take d_is_balanced_word.np) (defScope s_d_is_balanced_word) := ⟨rfl, rfl, rfl, by decide +kernel, rfl, by decide +kernel, by decide +kernel⟩
theorem ck_d_is_balanced_word : ckSs 60 d_is_balanced_word.N (defScope s_d_is_balanced_word) d_is_balanced_word.body (defBody s_d_is_balanced_word) = true := by decide +kernel
theorem bd_d_is_balanced_word : ∀ (kV doc pm : Value) (an : Option Addr) (cdv ct : Value) (us : List Value), us.length = (d_is_balanced_word.N.take d_is_balanced_word.np).length → bindArgs (PySem.W.fnOf d_is_balanced_word.nm d_is_balanced_word.nm (defArgs s_d_is_balanced_word) (defBody s_d_is_balanced_word) (defScope s_d_is_balanced_word) .none kV doc pm an cdv ct) ⟨us, []⟩ = pure ((d_is_balanced_word.N.take d_is_balanced_word.np).zip us) := fun _ _ _ _ _ _ us hl => match us, hl with | [_], _ => rfl
theorem sc_d_law_next : FnScope d_law_next.N (d_law_next.N.take d_law_next.np) (defScope s_d_law_next) := ⟨rfl, rfl, rfl, by decide +kernel, rfl, by decide +kernel, by decide +kernel⟩
theorem ck_d_law_next : ckSs 60 d_law_next.N (defScope s_d_law_next) d_law_next.body (defBody s_d_law_next) = true := by decide +kernel
theorem bd_d_law_next : ∀ (kV doc pm : Value) (an : Option Addr) (cdv ct : Value) (us : List Value), us.length = (d_law_next.N.take d_law_next.np).length → bindArgs (PySem.W.fnOf d_law_next.nm d_law_next.nm (defArgs s_d_law_next) (defBody s_d_law_next) (defScope s_d_law_next) .none kV doc pm an cdv ct) ⟨us, []⟩ = pure ((d_law_next.N.take d_law_next.np).zip us) := fun _ _ _ _ _ _ us hl => match us, hl with | [_, _], _ => rfl
theorem sc_d_law : FnScope d_law.N (d_law.N.take d_law.np) (defScope s_d_law) := ⟨rfl, rfl, rfl, by decide +kernel, rfl, by decide +kernel, by decide +kernel⟩
theorem ck_d_law : ckSs 60 d_law.N (defScope s_d_law) d_law.body (defBody s_d_law) = true := by decide +kernel
theorem bd_d_law : ∀ (kV doc pm : Value) (an : Option Addr) (cdv ct : Value) (us : List Value), us.length = (d_law.N.take d_law.np).length → bindArgs (PySem.W.fnOf d_law.nm d_law.nm (defArgs s_d_law) (defBody s_d_law) (defScope s_d_law) .none kV doc pm an cdv ct) ⟨us, []⟩ = pure ((d_law.N.take d_law.np).zip us) := fun _ _ _ _ _ _ us hl => match us, hl with | [_], _ => rfl
theorem sc_d_Substitution_init : FnScope d_Substitution_init.N (d_Substitution_init.N.take d_Substitution_init.np) (defScope s_d_Substitution_init) := ⟨rfl, rfl, rfl, by decide +kernel, rfl, by decide +kernel, by decide +kernel⟩
theorem ck_d_Substitution_init : ckSs 60 d_Substitution_init.N (defScope s_d_Substitution_init) d_Substitution_init.body (defBody s_d_Substitution_init) = true := by decide +kernel
theorem bd_d_Substitution_init : ∀ (kV doc pm : Value) (an : Option Addr) (cdv ct : Value) (us : List Value), us.length = (d_Substitution_init.N.take d_Substitution_init.np).length → bindArgs (PySem.W.fnOf d_Substitution_init.nm "Substitution.__init__" (defArgs s_d_Substitution_init) (defBody s_d_Substitution_init) (defScope s_d_Substitution_init) .none kV doc pm an cdv ct) ⟨us, []⟩ = pure ((d_Substitution_init.N.take d_Substitution_init.np).zip us) := fun _ _ _ _ _ _ us hl => match us, hl with | [_, _], _ => rfl
theorem sc_d_Substitution_put : FnScope d_Substitution_put.N (d_Substitution_put.N.take d_Substitution_put.np) (defScope s_d_Substitution_put) := ⟨rfl, rfl, rfl, by decide +kernel, rfl, by decide +kernel, by decide +kernel⟩
theorem ck_d_Substitution_put : ckSs 60 d_Substitution_put.N (defScope s_d_Substitution_put) d_Substitution_put.body (defBody s_d_Substitution_put) = true := by decide +kernel
theorem bd_d_Substitution_put : ∀ (kV doc pm : Value) (an : Option Addr) (cdv ct : Value) (us : List Value), us.length = (d_Substitution_put.N.take d_Substitution_put.np).length → bindArgs (PySem.W.fnOf d_Substitution_put.nm "Substitution.put" (defArgs s_d_Substitution_put) (defBody s_d_Substitution_put) (defScope s_d_Substitution_put) .none kV doc pm an cdv ct) ⟨us, []⟩ = pure ((d_Substitution_put.N.take d_Substitution_put.np).zip us) := fun _ _ _ _ _ _ us hl => match us, hl with | [_, _], _ => rfl
theorem sc_d_Substitution_put_often : FnScope d_Substitution_put_often.N (d_Substitution_put_often.N.take d_Substitution_put_often.np) (defScope s_d_Substitution_put_often) := ⟨rfl, rfl, rfl, by decide +kernel, rfl, by decide +kernel, by decide +kernel⟩
theorem ck_d_Substitution_put_often : ckSs 60 d_Substitution_put_often.N (defScope s_d_Substitution_put_often) d_Substitution_put_often.body (defBody s_d_Substitution_put_often) = true := by decide +kernel
theorem bd_d_Substitution_put_often : ∀ (kV doc pm : Value) (an : Option Addr) (cdv ct : Value) (us : List Value), us.length = (d_Substitution_put_often.N.take d_Substitution_put_often.np).length → bindArgs (PySem.W.fnOf d_Substitution_put_often.nm "Substitution.put_often" (defArgs s_d_Substitution_put_often) (defBody s_d_Substitution_put_often) (defScope s_d_Substitution_put_often) .none kV doc pm an cdv ct) ⟨us, []⟩ = pure ((d_Substitution_put_often.N.take d_Substitution_put_often.np).zip us) := fun _ _ _ _ _ _ us hl => match us, hl with | [_, _, _], _ => rfl
theorem all_mk {P : Program} {w : World} {K : PySem.W.Frag} {h : Heap} {mg : Str → Option Value} {fa : Addr} (X : K.In h) (G : h.Ns mainGlobals mg) (hfa : mg "law" = some (.ref fa)) (hL : Px.Law defs d_law 5)
    {C0 : Addr} (aC0 : PySem.W.nsIn K mainGlobals "Substitution" = some (some (.ref C0)))
    (pg0 : PySem.W.plainGet K C0 Str.empty = true)
    (hd0 : PySem.W.hasDictIn K C0 = true)
    (po0 : PySem.W.plainOver K C0 = true)
    (sa0 : PySem.W.findIn K (.ref C0) "__setattr__" = some (some (.builtin "object.__setattr__")))
    (mk0 : PySem.W.makesIn K C0 = true)
    (kc0 : PySem.W.keepIn K (.ref C0) = true)
    (ia0 : PySem.W.findIn K (.ref C0) "__class__" = some (some (.builtin "object.__class__")))
    (im0 : PySem.W.mroIn K C0 (.type "object") = some true)
    (n0_words : PySem.W.findIn K (.ref C0) "words" = some none)
    (iin : PySem.W.specialIn K (.builtin "object.__class__") "__get__" = some (some (.builtin "getset_descriptor.__get__"))) (iit : PySem.W.takesIn K (.builtin "object.__class__") = some true)
    {f0 : Addr} {od0 an0 : Option Addr} {sl0 : Array (Option Value)} {oc0 kV0 dc0 pm0 cd0 ct0 : Value}
    (a0 : PySem.W.nsIn K mainGlobals "is_number" = some (some (.ref f0))) (l0 : K.lookup f0 = some ⟨oc0, od0, .func (PySem.W.fnOf "is_number" "is_number" (defArgs s_d_is_number) (defBody s_d_is_number) (defScope s_d_is_number) .none kV0 dc0 pm0 an0 cd0 ct0), sl0⟩) (c0 : PySem.W.codeIn K cd0 "is_number" = true) (k0 : PySem.W.keepIn K (.ref f0) = true)
    {f1 : Addr} {od1 an1 : Option Addr} {sl1 : Array (Option Value)} {oc1 kV1 dc1 pm1 cd1 ct1 : Value}
    (a1 : PySem.W.nsIn K mainGlobals "is_word" = some (some (.ref f1))) (l1 : K.lookup f1 = some ⟨oc1, od1, .func (PySem.W.fnOf "is_word" "is_word" (defArgs s_d_is_word) (defBody s_d_is_word) (defScope s_d_is_word) .none kV1 dc1 pm1 an1 cd1 ct1), sl1⟩) (c1 : PySem.W.codeIn K cd1 "is_word" = true) (k1 : PySem.W.keepIn K (.ref f1) = true)
    {f2 : Addr} {od2 an2 : Option Addr} {sl2 : Array (Option Value)} {oc2 kV2 dc2 pm2 cd2 ct2 : Value}
    (a2 : PySem.W.nsIn K mainGlobals "turned" = some (some (.ref f2))) (l2 : K.lookup f2 = some ⟨oc2, od2, .func (PySem.W.fnOf "turned" "turned" (defArgs s_d_turned) (defBody s_d_turned) (defScope s_d_turned) .none kV2 dc2 pm2 an2 cd2 ct2), sl2⟩) (c2 : PySem.W.codeIn K cd2 "turned" = true) (k2 : PySem.W.keepIn K (.ref f2) = true)
    {f3 : Addr} {od3 an3 : Option Addr} {sl3 : Array (Option Value)} {oc3 kV3 dc3 pm3 cd3 ct3 : Value}
    (a3 : PySem.W.nsIn K mainGlobals "least_turn" = some (some (.ref f3))) (l3 : K.lookup f3 = some ⟨oc3, od3, .func (PySem.W.fnOf "least_turn" "least_turn" (defArgs s_d_least_turn) (defBody s_d_least_turn) (defScope s_d_least_turn) .none kV3 dc3 pm3 an3 cd3 ct3), sl3⟩) (c3 : PySem.W.codeIn K cd3 "least_turn" = true) (k3 : PySem.W.keepIn K (.ref f3) = true)
    {f4 : Addr} {od4 an4 : Option Addr} {sl4 : Array (Option Value)} {oc4 kV4 dc4 pm4 cd4 ct4 : Value}
    (a4 : PySem.W.nsIn K mainGlobals "least_period" = some (some (.ref f4))) (l4 : K.lookup f4 = some ⟨oc4, od4, .func (PySem.W.fnOf "least_period" "least_period" (defArgs s_d_least_period) (defBody s_d_least_period) (defScope s_d_least_period) .none kV4 dc4 pm4 an4 cd4 ct4), sl4⟩) (c4 : PySem.W.codeIn K cd4 "least_period" = true) (k4 : PySem.W.keepIn K (.ref f4) = true)
    {f5 : Addr} {od5 an5 : Option Addr} {sl5 : Array (Option Value)} {oc5 kV5 dc5 pm5 cd5 ct5 : Value}
    (a5 : PySem.W.nsIn K mainGlobals "root_of" = some (some (.ref f5))) (l5 : K.lookup f5 = some ⟨oc5, od5, .func (PySem.W.fnOf "root_of" "root_of" (defArgs s_d_root_of) (defBody s_d_root_of) (defScope s_d_root_of) .none kV5 dc5 pm5 an5 cd5 ct5), sl5⟩) (c5 : PySem.W.codeIn K cd5 "root_of" = true) (k5 : PySem.W.keepIn K (.ref f5) = true)
    {f6 : Addr} {od6 an6 : Option Addr} {sl6 : Array (Option Value)} {oc6 kV6 dc6 pm6 cd6 ct6 : Value}
    (a6 : PySem.W.nsIn K mainGlobals "common_divisor" = some (some (.ref f6))) (l6 : K.lookup f6 = some ⟨oc6, od6, .func (PySem.W.fnOf "common_divisor" "common_divisor" (defArgs s_d_common_divisor) (defBody s_d_common_divisor) (defScope s_d_common_divisor) .none kV6 dc6 pm6 an6 cd6 ct6), sl6⟩) (c6 : PySem.W.codeIn K cd6 "common_divisor" = true) (k6 : PySem.W.keepIn K (.ref f6) = true)
    {f7 : Addr} {od7 an7 : Option Addr} {sl7 : Array (Option Value)} {oc7 kV7 dc7 pm7 cd7 ct7 : Value}
    (a7 : PySem.W.nsIn K mainGlobals "check_steps" = some (some (.ref f7))) (l7 : K.lookup f7 = some ⟨oc7, od7, .func (PySem.W.fnOf "check_steps" "check_steps" (defArgs s_d_check_steps) (defBody s_d_check_steps) (defScope s_d_check_steps) .none kV7 dc7 pm7 an7 cd7 ct7), sl7⟩) (c7 : PySem.W.codeIn K cd7 "check_steps" = true) (k7 : PySem.W.keepIn K (.ref f7) = true)
    {f8 : Addr} {od8 an8 : Option Addr} {sl8 : Array (Option Value)} {oc8 kV8 dc8 pm8 cd8 ct8 : Value}
    (a8 : PySem.W.nsIn K mainGlobals "lower_word" = some (some (.ref f8))) (l8 : K.lookup f8 = some ⟨oc8, od8, .func (PySem.W.fnOf "lower_word" "lower_word" (defArgs s_d_lower_word) (defBody s_d_lower_word) (defScope s_d_lower_word) .none kV8 dc8 pm8 an8 cd8 ct8), sl8⟩) (c8 : PySem.W.codeIn K cd8 "lower_word" = true) (k8 : PySem.W.keepIn K (.ref f8) = true)
    {f9 : Addr} {od9 an9 : Option Addr} {sl9 : Array (Option Value)} {oc9 kV9 dc9 pm9 cd9 ct9 : Value}
    (a9 : PySem.W.nsIn K mainGlobals "middle_word" = some (some (.ref f9))) (l9 : K.lookup f9 = some ⟨oc9, od9, .func (PySem.W.fnOf "middle_word" "middle_word" (defArgs s_d_middle_word) (defBody s_d_middle_word) (defScope s_d_middle_word) .none kV9 dc9 pm9 an9 cd9 ct9), sl9⟩) (c9 : PySem.W.codeIn K cd9 "middle_word" = true) (k9 : PySem.W.keepIn K (.ref f9) = true)
    {f10 : Addr} {od10 an10 : Option Addr} {sl10 : Array (Option Value)} {oc10 kV10 dc10 pm10 cd10 ct10 : Value}
    (a10 : PySem.W.nsIn K mainGlobals "is_even_ring" = some (some (.ref f10))) (l10 : K.lookup f10 = some ⟨oc10, od10, .func (PySem.W.fnOf "is_even_ring" "is_even_ring" (defArgs s_d_is_even_ring) (defBody s_d_is_even_ring) (defScope s_d_is_even_ring) .none kV10 dc10 pm10 an10 cd10 ct10), sl10⟩) (c10 : PySem.W.codeIn K cd10 "is_even_ring" = true) (k10 : PySem.W.keepIn K (.ref f10) = true)
    {f11 : Addr} {od11 an11 : Option Addr} {sl11 : Array (Option Value)} {oc11 kV11 dc11 pm11 cd11 ct11 : Value}
    (a11 : PySem.W.nsIn K mainGlobals "told_slope" = some (some (.ref f11))) (l11 : K.lookup f11 = some ⟨oc11, od11, .func (PySem.W.fnOf "told_slope" "told_slope" (defArgs s_d_told_slope) (defBody s_d_told_slope) (defScope s_d_told_slope) .none kV11 dc11 pm11 an11 cd11 ct11), sl11⟩) (c11 : PySem.W.codeIn K cd11 "told_slope" = true) (k11 : PySem.W.keepIn K (.ref f11) = true)
    {f12 : Addr} {od12 an12 : Option Addr} {sl12 : Array (Option Value)} {oc12 kV12 dc12 pm12 cd12 ct12 : Value}
    (a12 : PySem.W.nsIn K mainGlobals "is_lower" = some (some (.ref f12))) (l12 : K.lookup f12 = some ⟨oc12, od12, .func (PySem.W.fnOf "is_lower" "is_lower" (defArgs s_d_is_lower) (defBody s_d_is_lower) (defScope s_d_is_lower) .none kV12 dc12 pm12 an12 cd12 ct12), sl12⟩) (c12 : PySem.W.codeIn K cd12 "is_lower" = true) (k12 : PySem.W.keepIn K (.ref f12) = true)
    {f13 : Addr} {od13 an13 : Option Addr} {sl13 : Array (Option Value)} {oc13 kV13 dc13 pm13 cd13 ct13 : Value}
    (a13 : PySem.W.nsIn K mainGlobals "tree_way" = some (some (.ref f13))) (l13 : K.lookup f13 = some ⟨oc13, od13, .func (PySem.W.fnOf "tree_way" "tree_way" (defArgs s_d_tree_way) (defBody s_d_tree_way) (defScope s_d_tree_way) .none kV13 dc13 pm13 an13 cd13 ct13), sl13⟩) (c13 : PySem.W.codeIn K cd13 "tree_way" = true) (k13 : PySem.W.keepIn K (.ref f13) = true)
    {f14 : Addr} {od14 an14 : Option Addr} {sl14 : Array (Option Value)} {oc14 kV14 dc14 pm14 cd14 ct14 : Value}
    (a14 : PySem.W.nsIn K mainGlobals "pair_of_way" = some (some (.ref f14))) (l14 : K.lookup f14 = some ⟨oc14, od14, .func (PySem.W.fnOf "pair_of_way" "pair_of_way" (defArgs s_d_pair_of_way) (defBody s_d_pair_of_way) (defScope s_d_pair_of_way) .none kV14 dc14 pm14 an14 cd14 ct14), sl14⟩) (c14 : PySem.W.codeIn K cd14 "pair_of_way" = true) (k14 : PySem.W.keepIn K (.ref f14) = true)
    {f15 : Addr} {od15 an15 : Option Addr} {sl15 : Array (Option Value)} {oc15 kV15 dc15 pm15 cd15 ct15 : Value}
    (a15 : PySem.W.nsIn K mainGlobals "put_words" = some (some (.ref f15))) (l15 : K.lookup f15 = some ⟨oc15, od15, .func (PySem.W.fnOf "put_words" "put_words" (defArgs s_d_put_words) (defBody s_d_put_words) (defScope s_d_put_words) .none kV15 dc15 pm15 an15 cd15 ct15), sl15⟩) (c15 : PySem.W.codeIn K cd15 "put_words" = true) (k15 : PySem.W.keepIn K (.ref f15) = true)
    {f16 : Addr} {od16 an16 : Option Addr} {sl16 : Array (Option Value)} {oc16 kV16 dc16 pm16 cd16 ct16 : Value}
    (a16 : PySem.W.nsIn K mainGlobals "times_table" = some (some (.ref f16))) (l16 : K.lookup f16 = some ⟨oc16, od16, .func (PySem.W.fnOf "times_table" "times_table" (defArgs s_d_times_table) (defBody s_d_times_table) (defScope s_d_times_table) .none kV16 dc16 pm16 an16 cd16 ct16), sl16⟩) (c16 : PySem.W.codeIn K cd16 "times_table" = true) (k16 : PySem.W.keepIn K (.ref f16) = true)
    {f17 : Addr} {od17 an17 : Option Addr} {sl17 : Array (Option Value)} {oc17 kV17 dc17 pm17 cd17 ct17 : Value}
    (a17 : PySem.W.nsIn K mainGlobals "sign_table" = some (some (.ref f17))) (l17 : K.lookup f17 = some ⟨oc17, od17, .func (PySem.W.fnOf "sign_table" "sign_table" (defArgs s_d_sign_table) (defBody s_d_sign_table) (defScope s_d_sign_table) .none kV17 dc17 pm17 an17 cd17 ct17), sl17⟩) (c17 : PySem.W.codeIn K cd17 "sign_table" = true) (k17 : PySem.W.keepIn K (.ref f17) = true)
    {f18 : Addr} {od18 an18 : Option Addr} {sl18 : Array (Option Value)} {oc18 kV18 dc18 pm18 cd18 ct18 : Value}
    (a18 : PySem.W.nsIn K mainGlobals "sign_counts" = some (some (.ref f18))) (l18 : K.lookup f18 = some ⟨oc18, od18, .func (PySem.W.fnOf "sign_counts" "sign_counts" (defArgs s_d_sign_counts) (defBody s_d_sign_counts) (defScope s_d_sign_counts) .none kV18 dc18 pm18 an18 cd18 ct18), sl18⟩) (c18 : PySem.W.codeIn K cd18 "sign_counts" = true) (k18 : PySem.W.keepIn K (.ref f18) = true)
    {f19 : Addr} {od19 an19 : Option Addr} {sl19 : Array (Option Value)} {oc19 kV19 dc19 pm19 cd19 ct19 : Value}
    (a19 : PySem.W.nsIn K mainGlobals "is_primitive" = some (some (.ref f19))) (l19 : K.lookup f19 = some ⟨oc19, od19, .func (PySem.W.fnOf "is_primitive" "is_primitive" (defArgs s_d_is_primitive) (defBody s_d_is_primitive) (defScope s_d_is_primitive) .none kV19 dc19 pm19 an19 cd19 ct19), sl19⟩) (c19 : PySem.W.codeIn K cd19 "is_primitive" = true) (k19 : PySem.W.keepIn K (.ref f19) = true)
    {f20 : Addr} {od20 an20 : Option Addr} {sl20 : Array (Option Value)} {oc20 kV20 dc20 pm20 cd20 ct20 : Value}
    (a20 : PySem.W.nsIn K mainGlobals "composed_substitution" = some (some (.ref f20))) (l20 : K.lookup f20 = some ⟨oc20, od20, .func (PySem.W.fnOf "composed_substitution" "composed_substitution" (defArgs s_d_composed_substitution) (defBody s_d_composed_substitution) (defScope s_d_composed_substitution) .none kV20 dc20 pm20 an20 cd20 ct20), sl20⟩) (c20 : PySem.W.codeIn K cd20 "composed_substitution" = true) (k20 : PySem.W.keepIn K (.ref f20) = true)
    {f21 : Addr} {od21 an21 : Option Addr} {sl21 : Array (Option Value)} {oc21 kV21 dc21 pm21 cd21 ct21 : Value}
    (a21 : PySem.W.nsIn K mainGlobals "fixed_beginning" = some (some (.ref f21))) (l21 : K.lookup f21 = some ⟨oc21, od21, .func (PySem.W.fnOf "fixed_beginning" "fixed_beginning" (defArgs s_d_fixed_beginning) (defBody s_d_fixed_beginning) (defScope s_d_fixed_beginning) .none kV21 dc21 pm21 an21 cd21 ct21), sl21⟩) (c21 : PySem.W.codeIn K cd21 "fixed_beginning" = true) (k21 : PySem.W.keepIn K (.ref f21) = true)
    {f22 : Addr} {od22 an22 : Option Addr} {sl22 : Array (Option Value)} {oc22 kV22 dc22 pm22 cd22 ct22 : Value}
    (a22 : PySem.W.nsIn K mainGlobals "is_balanced_word" = some (some (.ref f22))) (l22 : K.lookup f22 = some ⟨oc22, od22, .func (PySem.W.fnOf "is_balanced_word" "is_balanced_word" (defArgs s_d_is_balanced_word) (defBody s_d_is_balanced_word) (defScope s_d_is_balanced_word) .none kV22 dc22 pm22 an22 cd22 ct22), sl22⟩) (c22 : PySem.W.codeIn K cd22 "is_balanced_word" = true) (k22 : PySem.W.keepIn K (.ref f22) = true)
    {f23 : Addr} {od23 an23 : Option Addr} {sl23 : Array (Option Value)} {oc23 kV23 dc23 pm23 cd23 ct23 : Value}
    (a23 : PySem.W.nsIn K mainGlobals "_law_next" = some (some (.ref f23))) (l23 : K.lookup f23 = some ⟨oc23, od23, .func (PySem.W.fnOf "_law_next" "_law_next" (defArgs s_d_law_next) (defBody s_d_law_next) (defScope s_d_law_next) .none kV23 dc23 pm23 an23 cd23 ct23), sl23⟩) (c23 : PySem.W.codeIn K cd23 "_law_next" = true) (k23 : PySem.W.keepIn K (.ref f23) = true)
    {f24 : Addr} {od24 an24 : Option Addr} {sl24 : Array (Option Value)} {oc24 kV24 dc24 pm24 cd24 ct24 : Value}
    (a24 : PySem.W.nsIn K mainGlobals "law" = some (some (.ref f24))) (l24 : K.lookup f24 = some ⟨oc24, od24, .func (PySem.W.fnOf "law" "law" (defArgs s_d_law) (defBody s_d_law) (defScope s_d_law) .none kV24 dc24 pm24 an24 cd24 ct24), sl24⟩) (c24 : PySem.W.codeIn K cd24 "law" = true) (k24 : PySem.W.keepIn K (.ref f24) = true)
    {f25 : Addr} {od25 an25 : Option Addr} {sl25 : Array (Option Value)} {oc25 kV25 dc25 pm25 cd25 ct25 : Value}
    (a25 : PySem.W.findIn K (.ref C0) "__init__" = some (some (.ref f25))) (i25 : PySem.W.isFn K (.ref f25) = true) (l25 : K.lookup f25 = some ⟨oc25, od25, .func (PySem.W.fnOf "__init__" "Substitution.__init__" (defArgs s_d_Substitution_init) (defBody s_d_Substitution_init) (defScope s_d_Substitution_init) .none kV25 dc25 pm25 an25 cd25 ct25), sl25⟩) (c25 : PySem.W.codeIn K cd25 "Substitution.__init__" = true) (k25 : PySem.W.keepIn K (.ref f25) = true)
    {f26 : Addr} {od26 an26 : Option Addr} {sl26 : Array (Option Value)} {oc26 kV26 dc26 pm26 cd26 ct26 : Value}
    (a26 : PySem.W.findIn K (.ref C0) "put" = some (some (.ref f26))) (i26 : PySem.W.isFn K (.ref f26) = true) (l26 : K.lookup f26 = some ⟨oc26, od26, .func (PySem.W.fnOf "put" "Substitution.put" (defArgs s_d_Substitution_put) (defBody s_d_Substitution_put) (defScope s_d_Substitution_put) .none kV26 dc26 pm26 an26 cd26 ct26), sl26⟩) (c26 : PySem.W.codeIn K cd26 "Substitution.put" = true) (k26 : PySem.W.keepIn K (.ref f26) = true)
    {f27 : Addr} {od27 an27 : Option Addr} {sl27 : Array (Option Value)} {oc27 kV27 dc27 pm27 cd27 ct27 : Value}
    (a27 : PySem.W.findIn K (.ref C0) "put_often" = some (some (.ref f27))) (i27 : PySem.W.isFn K (.ref f27) = true) (l27 : K.lookup f27 = some ⟨oc27, od27, .func (PySem.W.fnOf "put_often" "Substitution.put_often" (defArgs s_d_Substitution_put_often) (defBody s_d_Substitution_put_often) (defScope s_d_Substitution_put_often) .none kV27 dc27 pm27 an27 cd27 ct27), sl27⟩) (c27 : PySem.W.codeIn K cd27 "Substitution.put_often" = true) (k27 : PySem.W.keepIn K (.ref f27) = true)
    (z0 : PySem.W.nsIn K mainGlobals "len" = some none)
    (z1 : PySem.W.nsIn K mainGlobals "tuple" = some none)
    (z2 : PySem.W.nsIn K mainGlobals "list" = some none)
    (z3 : PySem.W.nsIn K mainGlobals "sum" = some none)
    (z4 : PySem.W.nsIn K mainGlobals "all" = some none)
    (z5 : PySem.W.nsIn K mainGlobals "any" = some none)
    (z6 : PySem.W.nsIn K mainGlobals "max" = some none)
    (z7 : PySem.W.nsIn K mainGlobals "min" = some none)
    (z8 : PySem.W.nsIn K mainGlobals "abs" = some none)
    (z9 : PySem.W.nsIn K mainGlobals "int" = some none)
    (z10 : PySem.W.nsIn K mainGlobals "range" = some none)
    (z11 : PySem.W.nsIn K mainGlobals "isinstance" = some none)
    (z12 : PySem.W.nsIn K mainGlobals "bool" = some none)
    (z13 : PySem.W.nsIn K mainGlobals "str" = some none)
    (z14 : PySem.W.nsIn K mainGlobals "sorted" = some none)
    (z15 : PySem.W.nsIn K mainGlobals "reversed" = some none)
    (z16 : PySem.W.nsIn K mainGlobals "dict" = some none) :
    ∃ fd : FuncData, (∀ (s : Shared) (v : Value), BindsTo s fd ⟨[v], []⟩ [("script", v)]) ∧ ∀ base : Heap, K.In base → base.Ns mainGlobals mg → FnOk P w K mg base CX0 6 fa fd ["script"] (spLaw K) := by
  have D : ∀ d ∈ defs, DefIn K mg d ∨ (d.cl ≠ "" ∧ MthIn K mg d) := by
    intro d hd
    simp only [defs, List.mem_cons, List.not_mem_nil, or_false] at hd
    rcases hd with rfl | rfl | rfl | rfl | rfl | rfl | rfl | rfl | rfl | rfl | rfl | rfl | rfl | rfl | rfl | rfl | rfl | rfl | rfl | rfl | rfl | rfl | rfl | rfl | rfl | rfl | rfl | rfl
    · exact .inl (defIn_mk (d := d_is_number) (st := s_d_is_number) (n := 60) X G a0 l0 c0 k0 bd_d_is_number sc_d_is_number (by decide) ck_d_is_number rfl)
    · exact .inl (defIn_mk (d := d_is_word) (st := s_d_is_word) (n := 60) X G a1 l1 c1 k1 bd_d_is_word sc_d_is_word (by decide) ck_d_is_word rfl)
    · exact .inl (defIn_mk (d := d_turned) (st := s_d_turned) (n := 60) X G a2 l2 c2 k2 bd_d_turned sc_d_turned (by decide) ck_d_turned rfl)
    · exact .inl (defIn_mk (d := d_least_turn) (st := s_d_least_turn) (n := 60) X G a3 l3 c3 k3 bd_d_least_turn sc_d_least_turn (by decide) ck_d_least_turn rfl)
    · exact .inl (defIn_mk (d := d_least_period) (st := s_d_least_period) (n := 60) X G a4 l4 c4 k4 bd_d_least_period sc_d_least_period (by decide) ck_d_least_period rfl)
    · exact .inl (defIn_mk (d := d_root_of) (st := s_d_root_of) (n := 60) X G a5 l5 c5 k5 bd_d_root_of sc_d_root_of (by decide) ck_d_root_of rfl)
    · exact .inl (defIn_mk (d := d_common_divisor) (st := s_d_common_divisor) (n := 60) X G a6 l6 c6 k6 bd_d_common_divisor sc_d_common_divisor (by decide) ck_d_common_divisor rfl)
    · exact .inl (defIn_mk (d := d_check_steps) (st := s_d_check_steps) (n := 60) X G a7 l7 c7 k7 bd_d_check_steps sc_d_check_steps (by decide) ck_d_check_steps rfl)
    · exact .inl (defIn_mk (d := d_lower_word) (st := s_d_lower_word) (n := 60) X G a8 l8 c8 k8 bd_d_lower_word sc_d_lower_word (by decide) ck_d_lower_word rfl)
    · exact .inl (defIn_mk (d := d_middle_word) (st := s_d_middle_word) (n := 60) X G a9 l9 c9 k9 bd_d_middle_word sc_d_middle_word (by decide) ck_d_middle_word rfl)
    · exact .inl (defIn_mk (d := d_is_even_ring) (st := s_d_is_even_ring) (n := 60) X G a10 l10 c10 k10 bd_d_is_even_ring sc_d_is_even_ring (by decide) ck_d_is_even_ring rfl)
    · exact .inl (defIn_mk (d := d_told_slope) (st := s_d_told_slope) (n := 60) X G a11 l11 c11 k11 bd_d_told_slope sc_d_told_slope (by decide) ck_d_told_slope rfl)
    · exact .inl (defIn_mk (d := d_is_lower) (st := s_d_is_lower) (n := 60) X G a12 l12 c12 k12 bd_d_is_lower sc_d_is_lower (by decide) ck_d_is_lower rfl)
    · exact .inl (defIn_mk (d := d_tree_way) (st := s_d_tree_way) (n := 60) X G a13 l13 c13 k13 bd_d_tree_way sc_d_tree_way (by decide) ck_d_tree_way rfl)
    · exact .inl (defIn_mk (d := d_pair_of_way) (st := s_d_pair_of_way) (n := 60) X G a14 l14 c14 k14 bd_d_pair_of_way sc_d_pair_of_way (by decide) ck_d_pair_of_way rfl)
    · exact .inl (defIn_mk (d := d_put_words) (st := s_d_put_words) (n := 60) X G a15 l15 c15 k15 bd_d_put_words sc_d_put_words (by decide) ck_d_put_words rfl)
    · exact .inl (defIn_mk (d := d_times_table) (st := s_d_times_table) (n := 60) X G a16 l16 c16 k16 bd_d_times_table sc_d_times_table (by decide) ck_d_times_table rfl)
    · exact .inl (defIn_mk (d := d_sign_table) (st := s_d_sign_table) (n := 60) X G a17 l17 c17 k17 bd_d_sign_table sc_d_sign_table (by decide) ck_d_sign_table rfl)
    · exact .inl (defIn_mk (d := d_sign_counts) (st := s_d_sign_counts) (n := 60) X G a18 l18 c18 k18 bd_d_sign_counts sc_d_sign_counts (by decide) ck_d_sign_counts rfl)
    · exact .inl (defIn_mk (d := d_is_primitive) (st := s_d_is_primitive) (n := 60) X G a19 l19 c19 k19 bd_d_is_primitive sc_d_is_primitive (by decide) ck_d_is_primitive rfl)
    · exact .inl (defIn_mk (d := d_composed_substitution) (st := s_d_composed_substitution) (n := 60) X G a20 l20 c20 k20 bd_d_composed_substitution sc_d_composed_substitution (by decide) ck_d_composed_substitution rfl)
    · exact .inl (defIn_mk (d := d_fixed_beginning) (st := s_d_fixed_beginning) (n := 60) X G a21 l21 c21 k21 bd_d_fixed_beginning sc_d_fixed_beginning (by decide) ck_d_fixed_beginning rfl)
    · exact .inl (defIn_mk (d := d_is_balanced_word) (st := s_d_is_balanced_word) (n := 60) X G a22 l22 c22 k22 bd_d_is_balanced_word sc_d_is_balanced_word (by decide) ck_d_is_balanced_word rfl)
    · exact .inl (defIn_mk (d := d_law_next) (st := s_d_law_next) (n := 60) X G a23 l23 c23 k23 bd_d_law_next sc_d_law_next (by decide) ck_d_law_next rfl)
    · exact .inl (defIn_mk (d := d_law) (st := s_d_law) (n := 60) X G a24 l24 c24 k24 bd_d_law sc_d_law (by decide) ck_d_law rfl)
    · exact .inr (mthIn_mk (d := d_Substitution_init) (st := s_d_Substitution_init) (n := 60) X G ⟨aC0, ⟨⟨pg0, hd0, po0, sa0⟩, ia0, iin, iit, im0, (if_pos (beq_self_eq_true _))⟩, mk0, kc0⟩ a25 i25 l25 c25 k25 bd_d_Substitution_init sc_d_Substitution_init (by decide) ck_d_Substitution_init (by decide) (fun _ f hf => by
      have hf : f ∈ (["words"] : List Str) := hf
      simp only [List.mem_cons, List.not_mem_nil, or_false] at hf
      rcases hf with rfl
      · exact n0_words))
    · exact .inr (mthIn_mk (d := d_Substitution_put) (st := s_d_Substitution_put) (n := 60) X G ⟨aC0, ⟨⟨pg0, hd0, po0, sa0⟩, ia0, iin, iit, im0, (if_pos (beq_self_eq_true _))⟩, mk0, kc0⟩ a26 i26 l26 c26 k26 bd_d_Substitution_put sc_d_Substitution_put (by decide) ck_d_Substitution_put (by decide) (fun e => absurd e (by decide)))
    · exact .inr (mthIn_mk (d := d_Substitution_put_often) (st := s_d_Substitution_put_often) (n := 60) X G ⟨aC0, ⟨⟨pg0, hd0, po0, sa0⟩, ia0, iin, iit, im0, (if_pos (beq_self_eq_true _))⟩, mk0, kc0⟩ a27 i27 l27 c27 k27 bd_d_Substitution_put_often sc_d_Substitution_put_often (by decide) ck_d_Substitution_put_often (by decide) (fun e => absurd e (by decide)))
  have Z : ∀ x ∈ bnames, mg x = none := by
    intro x hx
    simp only [bnames, List.mem_cons, List.not_mem_nil, or_false] at hx
    rcases hx with rfl | rfl | rfl | rfl | rfl | rfl | rfl | rfl | rfl | rfl | rfl | rfl | rfl | rfl | rfl | rfl | rfl
    · exact PySem.W.mg_none_of X G z0
    · exact PySem.W.mg_none_of X G z1
    · exact PySem.W.mg_none_of X G z2
    · exact PySem.W.mg_none_of X G z3
    · exact PySem.W.mg_none_of X G z4
    · exact PySem.W.mg_none_of X G z5
    · exact PySem.W.mg_none_of X G z6
    · exact PySem.W.mg_none_of X G z7
    · exact PySem.W.mg_none_of X G z8
    · exact PySem.W.mg_none_of X G z9
    · exact PySem.W.mg_none_of X G z10
    · exact PySem.W.mg_none_of X G z11
    · exact PySem.W.mg_none_of X G z12
    · exact PySem.W.mg_none_of X G z13
    · exact PySem.W.mg_none_of X G z14
    · exact PySem.W.mg_none_of X G z15
    · exact PySem.W.mg_none_of X G z16
  have F := fun_mk (st := s_d_law) l24 c24 k24
  have e := hfa.symm.trans (PySem.W.mg_of X G a24)
  cases e
  exact ⟨PySem.W.fnOf "law" "law" (defArgs s_d_law) (defBody s_d_law) (defScope s_d_law) .none kV24 dc24 pm24 an24 cd24 ct24, fun s v => .of_eq rfl, fun base _ _ => law_fn (ps := ["script"]) hL (def_ok (P := P) (w := w) (base := base) F sc_d_law (by decide) ck_d_law (sig_ok D Z 5) Z) rfl⟩
end LW
open PySem PySem.W PyProof.Rows
set_option maxHeartbeats 0 in
theorem PySem.Challenge.cw_shiftwright_k86_whole_slopes_and_substit_holds : PySem.Challenge.rw_shiftwright_k86_whole_slopes_and_substit.Holds := by
  w_on; o_law; k_head; (case hw => w_witness2)
  k_fill
  refine L2.walk_of (l := PySem.Challenge.rw_shiftwright_k86_whole_slopes_and_substit) (n := 63) (k := 6) (x := "script") (CX := fun _ => L2.CX0) (sp := fun w => Px.spLaw _) rfl (by decide) rfl ⟨rfl, by decide, by decide⟩ (fun w h Y => PySem.W.kIn_of Y) ?F (fun _ _ a ns hl _ hS => Px.law_sp hl hS) (fun _ _ _ _ _ h => h)
  case F =>
    intro w mg fa h KX G hmg
    refine' LW.all_mk KX G hmg LW.law_true ?aC0 ?pg0 ?hd0 ?po0 ?sa0 ?mk0 ?kc0 ?ia0 ?im0 ?n0_words ?iin ?iit ?a0 ?l0 ?c0 ?k0 ?a1 ?l1 ?c1 ?k1 ?a2 ?l2 ?c2 ?k2 ?a3 ?l3 ?c3 ?k3 ?a4 ?l4 ?c4 ?k4 ?a5 ?l5 ?c5 ?k5 ?a6 ?l6 ?c6 ?k6 ?a7 ?l7 ?c7 ?k7 ?a8 ?l8 ?c8 ?k8 ?a9 ?l9 ?c9 ?k9 ?a10 ?l10 ?c10 ?k10 ?a11 ?l11 ?c11 ?k11 ?a12 ?l12 ?c12 ?k12 ?a13 ?l13 ?c13 ?k13 ?a14 ?l14 ?c14 ?k14 ?a15 ?l15 ?c15 ?k15 ?a16 ?l16 ?c16 ?k16 ?a17 ?l17 ?c17 ?k17 ?a18 ?l18 ?c18 ?k18 ?a19 ?l19 ?c19 ?k19 ?a20 ?l20 ?c20 ?k20 ?a21 ?l21 ?c21 ?k21 ?a22 ?l22 ?c22 ?k22 ?a23 ?l23 ?c23 ?k23 ?a24 ?l24 ?c24 ?k24 ?a25 ?i25 ?l25 ?c25 ?k25 ?a26 ?i26 ?l26 ?c26 ?k26 ?a27 ?i27 ?l27 ?c27 ?k27 ?z0 ?z1 ?z2 ?z3 ?z4 ?z5 ?z6 ?z7 ?z8 ?z9 ?z10 ?z11 ?z12 ?z13 ?z14 ?z15 ?z16
    (case aC0 => k_is); (case pg0 => k_is); (case hd0 => k_is); (case po0 => k_is); (case sa0 => k_is); (case mk0 => k_is); (case kc0 => k_is); (case ia0 => k_is); (case im0 => k_is); (case n0_words => k_is); (case iin => k_is); (case iit => k_is); (case a0 => k_is); (case l0 => k_is); (case c0 => k_is); (case k0 => k_is); (case a1 => k_is); (case l1 => k_is); (case c1 => k_is); (case k1 => k_is); (case a2 => k_is); (case l2 => k_is); (case c2 => k_is); (case k2 => k_is); (case a3 => k_is); (case l3 => k_is); (case c3 => k_is); (case k3 => k_is); (case a4 => k_is); (case l4 => k_is); (case c4 => k_is); (case k4 => k_is); (case a5 => k_is); (case l5 => k_is); (case c5 => k_is); (case k5 => k_is); (case a6 => k_is); (case l6 => k_is); (case c6 => k_is); (case k6 => k_is); (case a7 => k_is); (case l7 => k_is); (case c7 => k_is); (case k7 => k_is); (case a8 => k_is); (case l8 => k_is); (case c8 => k_is); (case k8 => k_is); (case a9 => k_is); (case l9 => k_is); (case c9 => k_is); (case k9 => k_is); (case a10 => k_is); (case l10 => k_is); (case c10 => k_is); (case k10 => k_is); (case a11 => k_is); (case l11 => k_is); (case c11 => k_is); (case k11 => k_is); (case a12 => k_is); (case l12 => k_is); (case c12 => k_is); (case k12 => k_is); (case a13 => k_is); (case l13 => k_is); (case c13 => k_is); (case k13 => k_is); (case a14 => k_is); (case l14 => k_is); (case c14 => k_is); (case k14 => k_is); (case a15 => k_is); (case l15 => k_is); (case c15 => k_is); (case k15 => k_is); (case a16 => k_is); (case l16 => k_is); (case c16 => k_is); (case k16 => k_is); (case a17 => k_is); (case l17 => k_is); (case c17 => k_is); (case k17 => k_is); (case a18 => k_is); (case l18 => k_is); (case c18 => k_is); (case k18 => k_is); (case a19 => k_is); (case l19 => k_is); (case c19 => k_is); (case k19 => k_is); (case a20 => k_is); (case l20 => k_is); (case c20 => k_is); (case k20 => k_is); (case a21 => k_is); (case l21 => k_is); (case c21 => k_is); (case k21 => k_is); (case a22 => k_is); (case l22 => k_is); (case c22 => k_is); (case k22 => k_is); (case a23 => k_is); (case l23 => k_is); (case c23 => k_is); (case k23 => k_is); (case a24 => k_is); (case l24 => k_is); (case c24 => k_is); (case k24 => k_is); (case a25 => k_is); (case i25 => k_is); (case l25 => k_is); (case c25 => k_is); (case k25 => k_is); (case a26 => k_is); (case i26 => k_is); (case l26 => k_is); (case c26 => k_is); (case k26 => k_is); (case a27 => k_is); (case i27 => k_is); (case l27 => k_is); (case c27 => k_is); (case k27 => k_is); (case z0 => k_is); (case z1 => k_is); (case z2 => k_is); (case z3 => k_is); (case z4 => k_is); (case z5 => k_is); (case z6 => k_is); (case z7 => k_is); (case z8 => k_is); (case z9 => k_is); (case z10 => k_is); (case z11 => k_is); (case z12 => k_is); (case z13 => k_is); (case z14 => k_is); (case z15 => k_is); (case z16 => k_is)
