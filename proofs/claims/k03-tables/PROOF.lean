import PyProof.Rows.All
import Wide.All
import OpenK.AllK
import Wide.FinOn
import HandS.ForMost
import HandS.Wide
import HandS.IsInst
import HandS.Flow
import HandS.TupAny
import HandS.TupMul
import HandS.Rev
import HandS.Deep
import HandS.WideMore
import HandS.Ends
import PySem.Challenge.RW_shiftwright_k03_tables_of_numbers
set_option Elab.async false
set_option linter.all false
set_option maxRecDepth 100000
set_option Elab.async false
set_option linter.all false
set_option maxRecDepth 100000
namespace Px
open PySem L2

/-- data: what a value stands for -/
inductive D where
  | non | bl (b : Bool) | int (i : Int) | str (x : Str) | tup (xs : List D) | lst (xs : List D)
  deriving Inhabited
mutual
def D.beq : D → D → Bool
  | .non, .non => true
  | .bl a, .bl b => decide (a = b)
  | .int a, .int b => decide (a = b)
  | .str a, .str b => decide (a = b)
  | .tup a, .tup b => D.beqL a b
  | .lst a, .lst b => D.beqL a b
  | _, _ => false
def D.beqL : List D → List D → Bool
  | [], [] => true
  | x :: xs, y :: ys => D.beq x y && D.beqL xs ys
  | _, _ => false
end
mutual
theorem D.beq_iff : ∀ a b : D, D.beq a b = true ↔ a = b
  | .non, b => by cases b <;> simp [D.beq]
  | .bl a, b => by cases b <;> simp [D.beq]
  | .int a, b => by cases b <;> simp [D.beq]
  | .str a, b => by cases b <;> simp [D.beq]
  | .tup a, b => by cases b <;> simp [D.beq, D.beqL_iff a]
  | .lst a, b => by cases b <;> simp [D.beq, D.beqL_iff a]
theorem D.beqL_iff : ∀ a b : List D, D.beqL a b = true ↔ a = b
  | [], b => by cases b <;> simp [D.beqL]
  | x :: xs, b => by
    cases b with
    | nil => simp [D.beqL]
    | cons y ys => simp [D.beqL, D.beq_iff x y, D.beqL_iff xs ys]
end
instance : DecidableEq D := fun a b => decidable_of_iff _ (D.beq_iff a b)

/-- a slot: data that stands still, or a list of the frame's own -/
inductive Slot where
  | dat (d : D) | own (xs : List D)
  deriving DecidableEq, Inhabited

abbrev PEnv := List (Option Slot)

inductive Out (α : Type) where
  | ok (a : α) | bad
  deriving Inhabited

def Out.bind {α β : Type} : Out α → (α → Out β) → Out β
  | .ok a, f => f a
  | .bad, _ => .bad
def Out.of {α : Type} : Option α → Out α
  | some a => .ok a
  | none => .bad
theorem Out.bind_ok {α β : Type} {x : Out α} {f : α → Out β} {b : β} (h : x.bind f = .ok b) : ∃ a, x = .ok a ∧ f a = .ok b := by
  cases x with
  | ok a => exact ⟨a, rfl, h⟩
  | bad => cases h
theorem Out.of_ok {α : Type} {x : Option α} {a : α} (h : Out.of x = .ok a) : x = some a := by
  cases x with
  | some b => cases h; rfl
  | none => cases h

def Slot.frz : Slot → D
  | .dat d => d
  | .own xs => .lst xs

/-- built-in functions and classes, called -/
inductive BI where
  | len | tuple | list | sum | all | any | max | min | abs | int
  deriving DecidableEq, Inhabited
def BI.nm : BI → String
  | .len => "len" | .tuple => "tuple" | .list => "list" | .sum => "sum" | .all => "all" | .any => "any" | .max => "max" | .min => "min" | .abs => "abs" | .int => "int"
def BI.isTy : BI → Bool
  | .tuple => true | .list => true | .int => true
  | _ => false
inductive IT where
  | int | bool | str | list | tuple
  deriving DecidableEq, Inhabited
def IT.nm : IT → String
  | .int => "int" | .bool => "bool" | .str => "str" | .list => "list" | .tuple => "tuple"
/-- primitives -/
inductive P where
  | bin (op : Operator) | neg | cmp (op : CmpOp) | ix | sl (lo hi : Bool) | bi (f : BI)
  deriving DecidableEq, Inhabited

inductive IK where
  | rng | seq | brw (i : Nat)
  deriving DecidableEq, Inhabited

mutual
/-- expressions -/
inductive E where
  | var (i : Nat)
  | con (d : D)
  | prim (p : P) (as : List Ar)
  | dsp (tup : Bool) (es : List E)
  | bop (isAnd : Bool) (es : List E) | not (a : E)
  | ite (c : T) (a b : E)
  | call (f : Str) (as : List Ar)
  | comp (vs : List Nat) (tg : Bool × List Nat) (ik : IK) (ies : List E) (conds : List T) (elt : E)
  | pop (i : Nat) (front : Bool)
  | isi (a : Ar) (ty : IT)
/-- tests -/
inductive T where
  | bop (isAnd : Bool) (ts : List T) | not (a : T) | val (a : Ar)
/-- operands: a slot that is read when all operands have come, or an expression -/
inductive Ar where
  | slot (i : Nat) | ex (e : E)
end
instance : Inhabited E := ⟨.var 0⟩
instance : Inhabited T := ⟨.val (.slot 0)⟩
instance : Inhabited Ar := ⟨.slot 0⟩

/-- an operand: a value, or a slot to be read when all operands have come -/
inductive Opd where
  | val (d : D) | slot (i : Nat)
  deriving Inhabited

abbrev Gfun := List Slot → Out (Slot × PEnv)
abbrev Sig := Str → Option Gfun

def getS (ρ : PEnv) (i : Nat) : Option Slot := ρ.getD i none
def rdO (ρ : PEnv) : Opd → Option D
  | .val d => some d
  | .slot i => match getS ρ i with
    | some s => some s.frz
    | none => none
def rdAll (ρ : PEnv) : List Opd → Option (List D)
  | [] => some []
  | o :: os => match rdO ρ o, rdAll ρ os with
    | some d, some ds => some (d :: ds)
    | _, _ => none

def wipeP (ρ : PEnv) : List Nat → PEnv
  | [] => ρ
  | v :: vs => (wipeP ρ vs).set v none
/-- the slots vs as they stood in ρ0 -/
def backP (ρ0 ρ : PEnv) : List Nat → PEnv
  | [] => ρ
  | v :: vs => (backP ρ0 ρ vs).set v (getS ρ0 v)
def isOwn : Option Slot → Bool
  | some (.own _) => true
  | _ => false

/-! ### what primitives make of data -/
def lim : Nat := 16777216

def binI (op : Operator) (i j : Int) : Option Int :=
  match op with
  | .Add => some (i + j)
  | .Sub => some (i - j)
  | .Mult => if i.natAbs.log2 + j.natAbs.log2 < 1000000 then some (i * j) else none
  | .FloorDiv => if 0 < j ∧ j.natAbs.log2 < 9000 then some (i / j) else if j ≠ 0 ∧ j.natAbs < 1073741824 then some (i.fdiv j) else none
  | .Mod => if 0 < j then some (i % j) else if j ≠ 0 then some (i.fmod j) else none
  | .Pow => if 0 ≤ j ∧ j ≤ 1000000 ∧ i.natAbs < 2 ^ 64 then some (i ^ j.toNat) else none
  | .LShift => if 0 ≤ j ∧ j ≤ 1000000 ∧ i.natAbs < 2 ^ 64 then some (i * 2 ^ j.toNat) else none
  | .RShift => if 0 ≤ j then some (i / 2 ^ j.toNat) else none
  | .BitAnd => some (Builtin.bitAnd i j)
  | .BitOr => some (Builtin.bitOr i j)
  | .BitXor => some (Builtin.bitXor i j)
  | _ => none

/-- name op= e -/
def augF (op : Operator) : D → D → Option D
  | .int i, .int j => match op with
    | .Add => some (.int (i + j))
    | .Sub => some (.int (i - j))
    | .Mult => if i.natAbs.log2 + j.natAbs.log2 < 1000000 then some (.int (i * j)) else none
    | .FloorDiv => if 0 < j ∧ j.natAbs.log2 < 9000 then some (.int (i / j)) else none
    | .Mod => if 0 < j then some (.int (i % j)) else none
    | .RShift => if 0 ≤ j then some (.int (i / 2 ^ j.toNat)) else none
    | _ => none
  | _, _ => none

def repL (xs : List D) (k : Int) : List D := (List.replicate k.toNat xs).flatten

def binF (op : Operator) : D → D → Option D
  | .int i, .int j => (binI op i j).map .int
  | .tup xs, .tup ys => if op = .Add ∧ xs.length + ys.length ≤ lim then some (.tup (xs ++ ys)) else none
  | .lst xs, .lst ys => if op = .Add ∧ xs.length + ys.length ≤ lim then some (.lst (xs ++ ys)) else none
  | .tup xs, .int k => if op = .Mult ∧ -1000 ≤ k ∧ k ≤ 1000 ∧ xs.length ≤ 1000 then some (.tup (repL xs k)) else none
  | .lst xs, .int k => if op = .Mult ∧ -(2 ^ 62) < k ∧ k < 2 ^ 62 ∧ xs.length * k.toNat ≤ lim then some (.lst (repL xs k)) else none
  | _, _ => none

/-- data without objects, to == -/
def D.py : D → PyData
  | .non => .none
  | .bl b => .bool b
  | .int i => .int i
  | .str x => .str x
  | .tup xs => .tuple (pyAll xs)
  | .lst xs => .list (pyAll xs)
where pyAll : List D → List PyData
  | [] => []
  | d :: ds => d.py :: pyAll ds

def eqF (a b : D) : Option Bool := if SeqAt.shaped a.py = true ∧ SeqAt.shaped b.py = true then some (PyData.eqv a.py b.py) else none

def intsOf : List D → Option (List Int)
  | [] => some []
  | .int i :: r => (intsOf r).map (i :: ·)
  | _ :: _ => none
def blsOf : List D → Option (List Bool)
  | [] => some []
  | .bl i :: r => (blsOf r).map (i :: ·)
  | _ :: _ => none
def inF (neg : Bool) (x : D) (xs : List D) : Option Bool :=
  if SeqAt.shaped x.py = true ∧ SeqAt.shaped (PyData.list (D.py.pyAll xs)) = true then
    some (if neg then !((D.py.pyAll xs).any fun y => PyData.eqv y x.py) else ((D.py.pyAll xs).any fun y => PyData.eqv y x.py))
  else none

def cmpF (op : CmpOp) (a b : D) : Option Bool :=
  match op, a, b with
  | .Eq, a, b => eqF a b
  | .NotEq, a, b => (eqF a b).map (!·)
  | .Is, a, .non => some (decide (a = .non))
  | .IsNot, a, .non => some (!decide (a = .non))
  | .Is, a, .bl c => some (decide (a = .bl c))
  | .IsNot, a, .bl c => some (!decide (a = .bl c))
  | .Lt, .int i, .int j => some (decide (i < j))
  | .LtE, .int i, .int j => some (decide (i ≤ j))
  | .Gt, .int i, .int j => some (decide (j < i))
  | .GtE, .int i, .int j => some (decide (j ≤ i))
  | .Lt, .tup xs, .tup ys => match intsOf xs, intsOf ys with
    | some ns, some ms => some (HT.lexLt ns ms)
    | _, _ => none
  | .In, x, .tup xs => inF false x xs
  | .In, x, .lst xs => inF false x xs
  | .NotIn, x, .tup xs => inF true x xs
  | .NotIn, x, .lst xs => inF true x xs
  | _, _, _ => none

def ixF : D → D → Option D
  | .tup xs, .int i => atI xs i
  | .lst xs, .int i => atI xs i
  | _, _ => none

def cutL (xs : List D) (lo hi : Option Int) : List D := (xs.drop (HT.sIx xs.length 0 lo)).take (HT.sIx xs.length xs.length hi - HT.sIx xs.length 0 lo)
def slF (lo hi : Option Int) : D → Option D
  | .tup xs => some (.tup (cutL xs lo hi))
  | .lst xs => some (.lst (cutL xs lo hi))
  | _ => none

def maxL : List Int → Option Int
  | [] => none
  | x :: xs => some (xs.foldl (fun m y => if m < y then y else m) x)
def minL : List Int → Option Int
  | [] => none
  | x :: xs => some (xs.foldl (fun m y => if y < m then y else m) x)

def biF : BI → List D → Option D
  | .len, [.tup xs] => some (.int xs.length)
  | .len, [.lst xs] => some (.int xs.length)
  | .tuple, [.tup xs] => some (.tup xs)
  | .tuple, [.lst xs] => some (.tup xs)
  | .list, [.tup xs] => some (.lst xs)
  | .list, [.lst xs] => some (.lst xs)
  | .sum, [.lst xs] => (intsOf xs).map fun ns => .int ns.sum
  | .all, [.lst xs] => (blsOf xs).map fun bs => .bl (bs.all id)
  | .any, [.lst xs] => (blsOf xs).map fun bs => .bl (bs.any id)
  | .max, [.lst xs] => (intsOf xs).bind fun ns => (maxL ns).map .int
  | .min, [.lst xs] => (intsOf xs).bind fun ns => (minL ns).map .int
  | .max, [.int i, .int j] => some (.int (if j > i then j else i))
  | .min, [.int i, .int j] => some (.int (if j < i then j else i))
  | .abs, [.int i] => some (.int (if i < 0 then -i else i))
  | .int, [.int i] => some (.int i)
  | .int, [.bl b] => some (.int (if b then 1 else 0))
  | _, _ => none

def primF : P → List D → Option D
  | .bin op, [a, b] => binF op a b
  | .neg, [.int i] => some (.int (-i))
  | .cmp op, [a, b] => (cmpF op a b).map .bl
  | .ix, [a, b] => ixF a b
  | .sl false false, [a] => slF none none a
  | .sl true false, [a, .int i] => slF (some i) none a
  | .sl false true, [a, .int j] => slF none (some j) a
  | .sl true true, [a, .int i, .int j] => slF (some i) (some j) a
  | .bi f, ds => biF f ds
  | _, _ => none

/-- the primitives whose lists are new -/
def freshP : P → Bool
  | .bin _ => true
  | .sl _ _ => true
  | .bi .list => true
  | _ => false

def truD : D → Option Bool
  | .non => some false
  | .bl b => some b
  | .int i => some (i != 0)
  | .str x => none
  | .tup xs => some (!xs.isEmpty)
  | .lst xs => some (!xs.isEmpty)

def isiF : D → IT → Bool
  | .bl _, .bool => true
  | .bl _, .int => true
  | .int _, .int => true
  | .str _, .str => true
  | .tup _, .tuple => true
  | .lst _, .list => true
  | _, _ => false

/-! ### iterations -/
def rngItems (lo hi : Int) : List D := (List.range (hi - lo).toNat).map fun k => .int (lo + (k : Nat))
def okRng (i : Int) : Bool := decide (-(2 ^ 62) ≤ i) && decide (i < 2 ^ 62)
def rngOf : List D → Option (List D)
  | [.int hi] => if okRng hi then some (rngItems 0 hi) else none
  | [.int lo, .int hi] => if okRng lo && okRng hi then some (rngItems lo hi) else none
  | _ => none
def seqOf : List D → Option (List D)
  | [.tup xs] => some xs
  | [.lst xs] => some xs
  | _ => none
/-- the target: one name, or a tuple of names -/
def setT (ρ : PEnv) : Bool × List Nat → D → Option PEnv
  | (false, [i]), d => some (ρ.set i (some (.dat d)))
  | (true, is), .tup ds => if is.length = ds.length then some (go ρ is ds) else none
  | _, _ => none
where go (ρ : PEnv) : List Nat → List D → PEnv
  | i :: is, d :: ds => go (ρ.set i (some (.dat d))) is ds
  | _, _ => ρ

def argS (ρ : PEnv) : List Opd → Option (List Slot)
  | [] => some []
  | .val d :: r => (argS ρ r).map (.dat d :: ·)
  | .slot i :: r => match getS ρ i with
    | some (.own xs) => (argS ρ r).map (.own xs :: ·)
    | _ => none
/-- the arguments' lists, written back -/
def backA (outs : PEnv) (k : Nat) : List Opd → PEnv → Option PEnv
  | [], ρ => some ρ
  | .val _ :: r, ρ => backA outs (k + 1) r ρ
  | .slot i :: r, ρ => match getS outs k with
    | some (.own ys) => backA outs (k + 1) r (ρ.set i (some (.own ys)))
    | _ => none
def slotsOf : List Opd → List Nat
  | [] => []
  | .val _ :: r => slotsOf r
  | .slot i :: r => i :: slotsOf r

/-- one clause's items, step by step: each turn gives at most one item -/
def compL (f : D → PEnv → Out (List D × PEnv)) : List D → PEnv → Out (List D × PEnv)
  | [], ρ => .ok ([], ρ)
  | x :: xs, ρ => (f x ρ).bind fun r => (compL f xs r.2).bind fun q => .ok (r.1 ++ q.1, q.2)

def itemsOf (ρ : PEnv) : IK → List D → Option (List D)
  | .rng, ds => rngOf ds
  | .seq, ds => seqOf ds
  | .brw i, [] => match getS ρ i with
    | some (.own xs) => some xs
    | _ => none
  | _, _ => none
/-- the list that is walked stands as it stood -/
def sameB (ik : IK) (ρ0 ρ : PEnv) : Bool :=
  match ik with
  | .brw i => decide (getS ρ0 i = getS ρ i)
  | _ => true

/-- a call -/
def callR (g : Option Gfun) (o : PEnv → Out (List Opd × PEnv)) (ρ : PEnv) : Out (Slot × PEnv) :=
  match g with
  | none => .bad
  | some g => (o ρ).bind fun q => (Out.of (argS q.2 q.1)).bind fun ss => (g ss).bind fun r =>
    if (slotsOf q.1).Nodup then (Out.of (backA r.2 0 q.1 q.2)).bind fun ρ2 => .ok (r.1, ρ2) else .bad

mutual
def ev (G : Sig) : E → PEnv → Out (D × PEnv)
  | .var i, ρ => match getS ρ i with
    | some (.dat d) => .ok (d, ρ)
    | some (.own xs) => .ok (.lst xs, ρ.set i (some (.dat (.lst xs))))
    | _ => .bad
  | .con d, ρ => .ok (d, ρ)
  | .prim p as, ρ => (opnds G as ρ).bind fun q => (Out.of (rdAll q.2 q.1)).bind fun ds => (Out.of (primF p ds)).bind fun d => .ok (d, q.2)
  | .dsp b es, ρ => (evs G es ρ).bind fun q => if q.1.length ≤ lim then .ok (if b then .tup q.1 else .lst q.1, q.2) else .bad
  | .bop c es, ρ => evB G c es ρ
  | .not a, ρ => (ev G a ρ).bind fun q => match q.1 with
    | .bl b => .ok (.bl (!b), q.2)
    | _ => .bad
  | .ite c a b, ρ => (evT G c ρ).bind fun q => match q.1 with
    | true => ev G a q.2
    | false => ev G b q.2
  | .call f as, ρ => (callR (G f) (fun ρ => opnds G as ρ) ρ).bind fun r => .ok (r.1.frz, r.2)
  | .comp vs tg ik ies conds elt, ρ => (evs G ies ρ).bind fun q =>
      (Out.of (itemsOf q.2 ik q.1)).bind fun items =>
      if (vs.all fun v => !isOwn (getS q.2 v)) = true then
        (compL (fun x ρ1 => (Out.of (setT ρ1 tg x)).bind fun ρ2 => (evC G true conds ρ2).bind fun t => match t.1 with
          | true => (ev G elt t.2).bind fun r => if sameB ik q.2 r.2 = true then .ok ([r.1], wipeP r.2 vs) else .bad
          | false => if sameB ik q.2 t.2 = true then .ok ([], wipeP t.2 vs) else .bad) items (wipeP q.2 vs)).bind fun r =>
        if r.1.length < lim then .ok (.lst r.1, backP q.2 r.2 vs) else .bad
      else .bad
  | .pop i front, ρ => match getS ρ i with
    | some (.own xs) => match front with
      | true => match xs with
        | x :: r => .ok (x, ρ.set i (some (.own r)))
        | [] => .bad
      | false => match xs.getLast? with
        | some x => .ok (x, ρ.set i (some (.own xs.dropLast)))
        | none => .bad
    | _ => .bad
  | .isi a ty, ρ => (opnd G a ρ).bind fun q => (Out.of (rdO q.2 q.1)).bind fun d => .ok (.bl (isiF d ty), q.2)
def evT (G : Sig) : T → PEnv → Out (Bool × PEnv)
  | .bop c ts, ρ => evC G c ts ρ
  | .not a, ρ => (evT G a ρ).bind fun q => .ok (!q.1, q.2)
  | .val a, ρ => (opnd G a ρ).bind fun q => (Out.of (rdO q.2 q.1)).bind fun d => (Out.of (truD d)).bind fun t => .ok (t, q.2)
def opnd (G : Sig) : Ar → PEnv → Out (Opd × PEnv)
  | .slot i, ρ => match getS ρ i with
    | some _ => .ok (.slot i, ρ)
    | none => .bad
  | .ex e, ρ => (ev G e ρ).bind fun q => .ok (.val q.1, q.2)
def opnds (G : Sig) : List Ar → PEnv → Out (List Opd × PEnv)
  | [], ρ => .ok ([], ρ)
  | e :: es, ρ => (opnd G e ρ).bind fun q => (opnds G es q.2).bind fun r => .ok (q.1 :: r.1, r.2)
def evs (G : Sig) : List E → PEnv → Out (List D × PEnv)
  | [], ρ => .ok ([], ρ)
  | e :: es, ρ => (ev G e ρ).bind fun q => (evs G es q.2).bind fun r => .ok (q.1 :: r.1, r.2)
def evC (G : Sig) (c : Bool) : List T → PEnv → Out (Bool × PEnv)
  | [], ρ => .ok (c, ρ)
  | t :: ts, ρ => (evT G t ρ).bind fun q => if q.1 = c then evC G c ts q.2 else .ok (q.1, q.2)
def evB (G : Sig) (c : Bool) : List E → PEnv → Out (D × PEnv)
  | [], _ => .bad
  | e :: es, ρ => (ev G e ρ).bind fun q => match es with
    | [] => .ok q
    | _ :: _ => match q.1 with
      | .bl b => if b = c then evB G c es q.2 else .ok (.bl b, q.2)
      | _ => .bad
end

/-- where a list of the frame's own may come: the value of an assignment, of a return -/
def evo (G : Sig) : E → PEnv → Out (Slot × PEnv)
  | .var i, ρ => match getS ρ i with
    | some (.dat d) => .ok (.dat d, ρ)
    | some (.own xs) => .ok (.own xs, ρ.set i none)
    | _ => .bad
  | .call f as, ρ => callR (G f) (fun ρ => opnds G as ρ) ρ
  | .dsp false es, ρ => (ev G (.dsp false es) ρ).bind fun q => match q.1 with
    | .lst xs => .ok (.own xs, q.2)
    | _ => .bad
  | .comp vs tg ik ies conds elt, ρ => (ev G (.comp vs tg ik ies conds elt) ρ).bind fun q => match q.1 with
    | .lst xs => .ok (.own xs, q.2)
    | _ => .bad
  | .prim p as, ρ => (ev G (.prim p as) ρ).bind fun q => match freshP p, q.1 with
    | true, .lst xs => .ok (.own xs, q.2)
    | _, d => .ok (.dat d, q.2)
  | e, ρ => (ev G e ρ).bind fun q => .ok (.dat q.1, q.2)

/-- a value, by the way that is asked -/
def evc (G : Sig) (own : Bool) (e : E) (ρ : PEnv) : Out (Slot × PEnv) :=
  match own with
  | true => evo G e ρ
  | false => (ev G e ρ).bind fun q => .ok (.dat q.1, q.2)
/-! ### statements -/
inductive S where
  | set (own : Bool) (i : Nat) (e : E)
  | upk (is : List Nat) (e : E)
  | par (oi : Bool) (i : Nat) (oj : Bool) (j : Nat) (a b : E)
  | aug (i : Nat) (op : Operator) (e : E)
  | seti (i : Nat) (ix e : E)
  | app (i : Nat) (e : E)
  | drop (e : E)
  | ret (e : E)
  | retN
  | ite (c : T) (a b : List S)
  | loop (tg : Bool × List Nat) (ik : IK) (ies : List E) (body : List S)
  | whil (c : T) (body : List S)
  | brk | cnt | nop | never
instance : Inhabited S := ⟨.nop⟩

inductive Flw where
  | nx | brk | cnt | ret (s : Slot)
  deriving Inhabited

def forL (f : D → PEnv → Out (Flw × PEnv)) : List D → PEnv → Out (Flw × PEnv)
  | [], ρ => .ok (.nx, ρ)
  | x :: xs, ρ => (f x ρ).bind fun r => match r.1 with
    | .nx => forL f xs r.2
    | .cnt => forL f xs r.2
    | .brk => .ok (.nx, r.2)
    | .ret s => .ok (.ret s, r.2)
def whileL (c : PEnv → Out (Bool × PEnv)) (b : PEnv → Out (Flw × PEnv)) : Nat → PEnv → Out (Flw × PEnv)
  | 0, _ => .bad
  | n + 1, ρ => (c ρ).bind fun q => match q.1 with
    | false => .ok (.nx, q.2)
    | true => (b q.2).bind fun r => match r.1 with
      | .nx => whileL c b n r.2
      | .cnt => whileL c b n r.2
      | .brk => .ok (.nx, r.2)
      | .ret s => .ok (.ret s, r.2)
def wlim : Nat := 1000000

def setAt (xs : List D) (i : Int) (d : D) : Option (List D) := (ixN xs.length i).map fun j => xs.set j d

mutual
/-- the slots that a statement stores to -/
def wr : S → List Nat
  | .set _ i _ => [i]
  | .upk is _ => is
  | .par _ i _ j _ _ => [i, j]
  | .aug i _ _ => [i]
  | .ite _ a b => wrs a ++ wrs b
  | .loop tg _ _ body => tg.2 ++ wrs body
  | .whil _ body => wrs body
  | _ => []
def wrs : List S → List Nat
  | [] => []
  | s :: ss => wr s ++ wrs ss
end
/-- a list of the frame's own that is walked: its name is not stored to meanwhile -/
def freeB (ik : IK) (ws : List Nat) : Bool :=
  match ik with
  | .brw i => !ws.contains i
  | _ => true

mutual
def ex (G : Sig) : S → PEnv → Out (Flw × PEnv)
  | .set own i e, ρ => match own with
    | true => (evo G e ρ).bind fun q => .ok (.nx, q.2.set i (some q.1))
    | false => (ev G e ρ).bind fun q => .ok (.nx, q.2.set i (some (.dat q.1)))
  | .upk is e, ρ => (ev G e ρ).bind fun q => (Out.of (setT q.2 (true, is) q.1)).bind fun ρ2 => .ok (.nx, ρ2)
  | .par oi i oj j a b, ρ => (evc G oi a ρ).bind fun q => (evc G oj b q.2).bind fun r => .ok (.nx, (r.2.set i (some q.1)).set j (some r.1))
  | .aug i op e, ρ => match getS ρ i with
    | some (.dat d) => (ev G e ρ).bind fun q => (Out.of (augF op d q.1)).bind fun z => .ok (.nx, q.2.set i (some (.dat z)))
    | _ => .bad
  | .seti i ix e, ρ => (ev G e ρ).bind fun q => if isOwn (getS q.2 i) = true then (ev G ix q.2).bind fun r => match getS r.2 i, r.1 with
    | some (.own xs), .int k => (Out.of (setAt xs k q.1)).bind fun ys => .ok (.nx, r.2.set i (some (.own ys)))
    | _, _ => .bad
    else .bad
  | .app i e, ρ => if isOwn (getS ρ i) = true then (ev G e ρ).bind fun q => match getS q.2 i with
    | some (.own xs) => if xs.length < lim then .ok (.nx, q.2.set i (some (.own (xs ++ [q.1])))) else .bad
    | _ => .bad
    else .bad
  | .drop e, ρ => (ev G e ρ).bind fun q => .ok (.nx, q.2)
  | .ret e, ρ => (evo G e ρ).bind fun q => .ok (.ret q.1, q.2)
  | .retN, ρ => .ok (.ret (.dat .non), ρ)
  | .ite c a b, ρ => (evT G c ρ).bind fun q => match q.1 with
    | true => exs G a q.2
    | false => exs G b q.2
  | .loop tg ik ies body, ρ => (evs G ies ρ).bind fun q => (Out.of (itemsOf q.2 ik q.1)).bind fun items =>
      if freeB ik (tg.2 ++ wrs body) = true then
        forL (fun x ρ1 => (Out.of (setT ρ1 tg x)).bind fun ρ2 => (exs G body ρ2).bind fun r => if sameB ik q.2 r.2 = true then .ok r else .bad) items q.2
      else .bad
  | .whil c body, ρ => whileL (evT G c) (exs G body) wlim ρ
  | .brk, ρ => .ok (.brk, ρ)
  | .cnt, ρ => .ok (.cnt, ρ)
  | .nop, ρ => .ok (.nx, ρ)
  | .never, _ => .bad
def exs (G : Sig) : List S → PEnv → Out (Flw × PEnv)
  | [], ρ => .ok (.nx, ρ)
  | s :: ss, ρ => (ex G s ρ).bind fun r => match r.1 with
    | .nx => exs G ss r.2
    | f => .ok (f, r.2)
end

structure Def where
  nm : Str
  N : List Str
  np : Nat
  body : List S
  deriving Inhabited

/-- the arguments that are lists of the caller's own: their names are not stored to, and stay such -/
def ownArgs (as : List Slot) (ws : List Nat) (ρ : PEnv) : Bool :=
  (List.range as.length).all fun j => !isOwn as[j]? || (!ws.contains j && isOwn (getS ρ j))
def runDef (G : Sig) (d : Def) : Gfun := fun as =>
  if as.length = d.np ∧ d.np ≤ d.N.length then
    (exs G d.body (as.map some ++ List.replicate (d.N.length - as.length) none)).bind fun r =>
      if ownArgs as (wrs d.body) r.2 = true then
        match r.1 with
        | .nx => .ok (.dat .non, r.2)
        | .ret s => .ok (s, r.2)
        | _ => .bad
      else .bad
  else .bad

/-- the program's defs, called k deep -/
def sigOf (ds : List Def) : Nat → Sig
  | 0, _ => none
  | k + 1, f => match ds.find? fun d => d.nm == f with
    | some d => some (runDef (sigOf ds k) d)
    | none => none
end Px
set_option Elab.async false
set_option linter.all false
set_option maxRecDepth 100000
namespace Px
open PySem PySem.Spec PyProof.Rows L2

/-! ### what a value stands for -/
mutual
inductive Rep (K : PySem.W.Frag) (F : Hp) : V → D → Prop
  | non : Rep K F .non .non
  | bl (b : Bool) : Rep K F (.bl b) (.bl b)
  | int (i : Int) : Rep K F (.int i) (.int i)
  | str (x : Str) : Rep K F (.str x) (.str x)
  | tup {a : Addr} {vs : List V} {xs : List D} : SqT K F a vs → RepAll K F vs xs → Rep K F (.ref a) (.tup xs)
  | lst {a : Addr} {vs : List V} {xs : List D} : SqL K F a vs → RepAll K F vs xs → Rep K F (.ref a) (.lst xs)
inductive RepAll (K : PySem.W.Frag) (F : Hp) : List V → List D → Prop
  | nil : RepAll K F [] []
  | cons {v : V} {vs : List V} {d : D} {ds : List D} : Rep K F v d → RepAll K F vs ds → RepAll K F (v :: vs) (d :: ds)
end
abbrev Ex (H H' : Hp) : Prop := ∀ a o, H a = some o → H' a = some o
theorem Ex.refl (H : Hp) : Ex H H := fun _ _ h => h
theorem Ex.trans {H H1 H2 : Hp} (a : Ex H H1) (b : Ex H1 H2) : Ex H H2 := fun x o h => b x o (a x o h)
theorem Ex.new {H : Hp} {p : Addr} {o : HO} (h : H p = none) : Ex H (upd H p o) := fun a u e => by
  rw [upd_ne (ne_of_none e h)]; exact e
theorem Ex.fresh {H H' : Hp} {p : Addr} (e : Ex H H') (h : H' p = none) : H p = none := by
  cases q : H p with
  | none => rfl
  | some o => rw [e p o q] at h; cases h
theorem Ex.rd {H H' : Hp} {a : Addr} {u : HO} (e : Ex H H') (h : Rd H a u) : Rd H' a u := by
  rcases h with h | ⟨o, h⟩
  · exact .inl (e a _ h)
  · exact .inr ⟨o, e a _ h⟩
theorem Ex.sqL {K : PySem.W.Frag} {H H' : Hp} {a : Addr} {xs : List V} (e : Ex H H') (h : SqL K H a xs) : SqL K H' a xs := by
  rcases h with h | h
  · exact .inl (e.rd h)
  · exact .inr h
theorem Ex.sqT {K : PySem.W.Frag} {H H' : Hp} {a : Addr} {xs : List V} (e : Ex H H') (h : SqT K H a xs) : SqT K H' a xs := by
  rcases h with h | h
  · exact .inl (e.rd h)
  · exact .inr h
section
variable {K : PySem.W.Frag} {F F' H : Hp}
mutual
theorem Rep.mono (e : Ex F F') : ∀ {d : D} {v : V}, Rep K F v d → Rep K F' v d
  | _, _, .non => .non
  | _, _, .bl b => .bl b
  | _, _, .int i => .int i
  | _, _, .str x => .str x
  | _, _, .tup h r => .tup (e.sqT h) (RepAll.mono e r)
  | _, _, .lst h r => .lst (e.sqL h) (RepAll.mono e r)
theorem RepAll.mono (e : Ex F F') : ∀ {ds : List D} {vs : List V}, RepAll K F vs ds → RepAll K F' vs ds
  | _, _, .nil => .nil
  | _, _, .cons h r => .cons (Rep.mono e h) (RepAll.mono e r)
end
theorem RepAll.length : ∀ {ds : List D} {vs : List V}, RepAll K F vs ds → vs.length = ds.length
  | _, _, .nil => rfl
  | _, _, .cons _ r => by simp [RepAll.length r]
theorem RepAll.app : ∀ {ds es : List D} {vs ws : List V}, RepAll K F vs ds → RepAll K F ws es → RepAll K F (vs ++ ws) (ds ++ es)
  | _, _, _, _, .nil, q => q
  | _, _, _, _, .cons h r, q => .cons h (r.app q)
theorem RepAll.one {v : V} {d : D} (h : Rep K F v d) : RepAll K F [v] [d] := .cons h .nil
theorem RepAll.get : ∀ {ds : List D} {vs : List V} {i : Nat} {v : V}, RepAll K F vs ds → vs[i]? = some v → ∃ d, ds[i]? = some d ∧ Rep K F v d
  | _, _, _, _, .nil, e => by simp at e
  | _, _, 0, _, .cons h r, e => by simp at e; subst e; exact ⟨_, rfl, h⟩
  | _, _, i + 1, _, .cons h r, e => by
    obtain ⟨d, q, z⟩ := r.get (i := i) (by simpa using e)
    exact ⟨d, by simpa using q, z⟩
theorem RepAll.get' : ∀ {ds : List D} {vs : List V} {i : Nat} {d : D}, RepAll K F vs ds → ds[i]? = some d → ∃ v, vs[i]? = some v ∧ Rep K F v d
  | _, _, _, _, .nil, e => by simp at e
  | _, _, 0, _, .cons h r, e => by simp at e; subst e; exact ⟨_, rfl, h⟩
  | _, _, i + 1, _, .cons h r, e => by
    obtain ⟨d, q, z⟩ := r.get' (i := i) (by simpa using e)
    exact ⟨d, by simpa using q, z⟩
theorem RepAll.take : ∀ {ds : List D} {vs : List V} (n : Nat), RepAll K F vs ds → RepAll K F (vs.take n) (ds.take n)
  | _, _, 0, _ => by simpa using .nil
  | _, _, _ + 1, .nil => .nil
  | _, _, n + 1, .cons h r => .cons h (r.take n)
theorem RepAll.drop : ∀ {ds : List D} {vs : List V} (n : Nat), RepAll K F vs ds → RepAll K F (vs.drop n) (ds.drop n)
  | _, _, 0, h => h
  | _, _, _ + 1, .nil => .nil
  | _, _, n + 1, .cons _ r => r.drop n
theorem RepAll.set : ∀ {ds : List D} {vs : List V} (i : Nat) {v : V} {d : D}, RepAll K F vs ds → Rep K F v d → RepAll K F (vs.set i v) (ds.set i d)
  | _, _, _, _, _, .nil, _ => .nil
  | _, _, 0, _, _, .cons _ r, h => .cons h r
  | _, _, i + 1, _, _, .cons h r, q => .cons h (r.set i q)
theorem RepAll.dropLast : ∀ {ds : List D} {vs : List V}, RepAll K F vs ds → RepAll K F vs.dropLast ds.dropLast := fun {ds vs} h => by
  rw [List.dropLast_eq_take, List.dropLast_eq_take, h.length]; exact h.take _
theorem RepAll.rep {ds : List D} {vs : List V} (h : RepAll K F vs ds) : ∀ n : Nat, RepAll K F (List.replicate n vs).flatten (List.replicate n ds).flatten
  | 0 => by simpa using .nil
  | n + 1 => by simp only [List.replicate_succ, List.flatten_cons]; exact h.app (h.rep n)
theorem RepAll.ints : ∀ {ds : List D} {vs : List V} {ns : List Int}, RepAll K F vs ds → intsOf ds = some ns → vs = ns.map V.int
  | _, _, _, .nil, e => by cases e; rfl
  | d :: ds, _, ns, .cons h r, e => by
    cases d <;> try (simp [intsOf] at e; done)
    simp only [intsOf, Option.map_eq_some_iff] at e
    obtain ⟨ms, e1, e2⟩ := e
    subst e2
    cases h
    rw [r.ints e1]; rfl
theorem RepAll.bls : ∀ {ds : List D} {vs : List V} {ns : List Bool}, RepAll K F vs ds → blsOf ds = some ns → vs = ns.map V.bl
  | _, _, _, .nil, e => by cases e; rfl
  | d :: ds, _, ns, .cons h r, e => by
    cases d <;> try (simp [blsOf] at e; done)
    simp only [blsOf, Option.map_eq_some_iff] at e
    obtain ⟨ms, e1, e2⟩ := e
    subst e2
    cases h
    rw [r.bls e1]; rfl

/-- an operand as it is read: it stands still, or it is a list that may change later -/
def RepO (K : PySem.W.Frag) (F H : Hp) (v : V) (d : D) : Prop :=
  Rep K F v d ∨ ∃ a vs xs, v = .ref a ∧ d = .lst xs ∧ H a = some (.lst vs) ∧ RepAll K F vs xs
theorem RepO.tup {v : V} {xs : List D} (e : Ex F H) (h : RepO K F H v (.tup xs)) : ∃ a vs, v = .ref a ∧ SqT K H a vs ∧ RepAll K F vs xs := by
  rcases h with h | ⟨a, vs, ys, h1, h2, _⟩
  · cases h with
    | tup h r => exact ⟨_, _, rfl, e.sqT h, r⟩
  · cases h2
theorem RepO.lst {v : V} {xs : List D} (e : Ex F H) (h : RepO K F H v (.lst xs)) : ∃ a vs, v = .ref a ∧ SqL K H a vs ∧ RepAll K F vs xs := by
  rcases h with h | ⟨a, vs, ys, h1, h2, h3, h4⟩
  · cases h with
    | lst h r => exact ⟨_, _, rfl, e.sqL h, r⟩
  · cases h2
    exact ⟨a, vs, h1, SqL.of h3, h4⟩
theorem RepO.int {v : V} {i : Int} (h : RepO K F H v (.int i)) : v = .int i := by
  rcases h with h | ⟨a, vs, ys, h1, h2, _⟩
  · cases h; rfl
  · cases h2
theorem RepO.bl {v : V} {i : Bool} (h : RepO K F H v (.bl i)) : v = .bl i := by
  rcases h with h | ⟨a, vs, ys, h1, h2, _⟩
  · cases h; rfl
  · cases h2
theorem RepO.non {v : V} (h : RepO K F H v .non) : v = .non := by
  rcases h with h | ⟨a, vs, ys, h1, h2, _⟩
  · cases h; rfl
  · cases h2
theorem RepO.str {v : V} {x : Str} (h : RepO K F H v (.str x)) : v = .str x := by
  rcases h with h | ⟨a, vs, ys, h1, h2, _⟩
  · cases h; rfl
  · cases h2
mutual
theorem Rep.dp (e : Ex F H) : ∀ {d : D} {v : V}, Rep K F v d → Dp K H v d.py
  | _, _, .non => .non
  | _, _, .bl b => .bl b
  | _, _, .int i => .int i
  | _, _, .str x => .str x
  | .tup xs, _, .tup h r => by rw [D.py]; exact .tup (e.sqT h) (RepAll.dp e r)
  | .lst xs, _, .lst h r => by rw [D.py]; exact .lst (e.sqL h) (RepAll.dp e r)
theorem RepAll.dp (e : Ex F H) : ∀ {ds : List D} {vs : List V}, RepAll K F vs ds → DpAll K H vs (D.py.pyAll ds)
  | _, _, .nil => by rw [D.py.pyAll]; exact .nil
  | _, _, .cons h r => by rw [D.py.pyAll]; exact .cons (Rep.dp e h) (RepAll.dp e r)
end
theorem RepO.dp (e : Ex F H) {v : V} {d : D} (h : RepO K F H v d) : Dp K H v d.py := by
  rcases h with h | ⟨a, vs, xs, rfl, rfl, h3, h4⟩
  · exact h.dp e
  · rw [D.py]; exact .lst (SqL.of h3) (RepAll.dp e h4)
end

/-- what a primitive hands on: data that stands still, a new list, a new tuple -/
structure PRes (K : PySem.W.Frag) (F H : Hp) (fresh : Bool) (d : D) (Q : VK) : Prop where
  dat : (fresh = true → ∀ xs, d ≠ .lst xs) → ∀ v, Rep K F v d → Q v H
  lst : ∀ q vs xs, H q = none → d = .lst xs → RepAll K F vs xs → Q (.ref q) (upd H q (.lst vs))
  tup : ∀ q vs xs, H q = none → d = .tup xs → RepAll K F vs xs → Q (.ref q) (upd H q (.tup vs))
section
variable {X : Cx}

/-! ### list + list, of any kind -/
def rCatL (K : PySem.W.Frag) : R2 := fun x y H Q => ∃ l b xs zs, x = .ref l ∧ y = .ref b ∧ SqL K H l xs ∧ SqL K H b zs ∧ xs.length + zs.length ≤ sizeLine ∧ ∀ p, H p = none → Q (.ref p) (upd H p (.lst (xs ++ zs)))
theorem op_catL : OpR X (binaryOp .Add) (rCatL X.K) := by
  intro pins s σ H x y v u Q I rx ry h
  obtain ⟨l, b, xs, zs, rfl, rfl, hH, hB, hz, q⟩ := h
  cases rx
  cases ry
  obtain ⟨its, r, ⟨⟨cls, dd, data, sl⟩, n, ho, hc, _, hd⟩, hs⟩ := I.list hH
  obtain ⟨its2, r2, ⟨⟨cls2, dd2, data2, sl2⟩, n2, ho2, hc2, _, hd2⟩, hs2⟩ := I.list hB
  simp only at hc hd hc2 hd2
  subst hc hd hc2 hd2
  have e : its.toArray ++ its2.toArray = (its ++ its2).toArray := by simp
  have l1 := r.length
  have l2 := r2.length
  refine concat_meets ⟨_, ho, rfl⟩ ⟨_, ho2, rfl⟩ noFill_list_add seq_list_add PySem.F.slot_list_add PySem.F.entry_list_add (PySem.F.args_list_add_2 _ _) (list_addW l b its.toArray its2.toArray n n2 dd dd2 sl sl2 (by simp only [List.size_toArray]; omega)) ⟨ho, ho2, ?_⟩
  rw [e]
  exact ⟨.ref _, _, I.lnew (t' := s.toks) (r.append r2) (by rw [List.length_append]; omega), rfl, q _ I.fresh⟩
end
end Px
set_option Elab.async false
set_option linter.all false
set_option maxRecDepth 100000
set_option maxHeartbeats 2000000
namespace Px
open PySem PySem.Spec PyProof.Rows L2
theorem int_rmul_listW (a : Int) (t : Tok) (l : Addr) (items : Array Value) (n : Nat) (dd : Option Addr) (sl : Array (Option Value)) :
    Meets (Builtin.«int.__rmul__» ⟨[.int a t, .ref l], []⟩) (fun _ R s => s.heap.get? l = some { cls := .type "list", dict := dd, data := .seq items n, slots := sl } ∧ R (.ok (.ret Value.notImplemented)) s) :=
  .of_wp fun prog w A R s h => by obtain ⟨hp, g, d, tk, os⟩ := s; obtain ⟨hl, h⟩ := h; wp_walk using wpAny_loadPart' hl; exact ⟨_, rfl, h⟩
theorem list_mulW (l : Addr) (items : Array Value) (n : Nat) (dd : Option Addr) (sl : Array (Option Value)) (x : Int) (u : Tok) (hc0 : ¬(!Builtin.List.listFitsIndex x) = true) (hc1 : ¬items.size * x.toNat > (2 ^ 63 - 1) / 8) (hc2 : ¬Builtin.List.listTooLong (items.size * x.toNat) = true) :
    Meets (Builtin.«list.__mul__» ⟨[.ref l, .int x u], []⟩) (fun _ R s => s.heap.get? l = some { cls := .type "list", dict := dd, data := .seq items n, slots := sl } ∧ R (.ok (.ret (Value.ref s.heap.objs.size))) { s with heap := s.heap.push { cls := Value.type "list", data := Data.seq (List.foldl (fun x1 x2 => x1 ++ x2) #[] (List.replicate (if items.isEmpty = true then 0 else x.toNat) items)) }, toks := s.toks }) :=
  .of_wp fun prog w A R s h => by
    obtain ⟨hp, g, d, tk, os⟩ := s; obtain ⟨hl, h⟩ := h
    have hsz := AutoListH.joined_fits hc2
    wp_walk using wpAny_loadPart' hl
    refine wpAny_ite_false (decide_eq_false (Nat.not_lt.mpr hsz)) ?_; wp_walk using wpAny_loadPart' hl; exact ⟨_, rfl, h⟩
theorem tuple_mul1 (l : Addr) (items : Array Value) (n : Nat) (dd : Option Addr) (sl : Array (Option Value)) (x : Int) (u : Tok) (c0 : (decide (x < -(2 ^ 63)) || decide (x ≥ 2 ^ 63)) = false) (c1 : (items.isEmpty || x == 1) = true) :
    Meets (Builtin.«tuple.__mul__» ⟨[.ref l, .int x u], []⟩) (fun _ R s => s.heap.get? l = some { cls := .type "tuple", dict := dd, data := .seq items n, slots := sl } ∧
      R (.ok (.ret (Value.ref l))) s) :=
  .of_wp fun prog w A R s h => by
    obtain ⟨hp, g, d, tk, os⟩ := s
    obtain ⟨hl, h⟩ := h
    have f1 := AutoSeq1.idx_int
    wp_walk using wpAny_loadPart' hl
    repeat (first
      | (refine wpAny_ite_false (decide_eq_false (by rw [c0]; exact Bool.false_ne_true)) ?_; wp_walk using wpAny_loadPart' hl)
      | (refine wpAny_ite_true (decide_eq_true c1) ?_; wp_walk using wpAny_loadPart' hl))
    exact ⟨_, rfl, h⟩
theorem tuple_mul0 (l : Addr) (items : Array Value) (n : Nat) (dd : Option Addr) (sl : Array (Option Value)) (x : Int) (u : Tok) (c0 : (decide (x < -(2 ^ 63)) || decide (x ≥ 2 ^ 63)) = false) (c1 : (items.isEmpty || x == 1) = false) (c2 : (decide (x ≤ 0) || items.isEmpty) = true) :
    Meets (Builtin.«tuple.__mul__» ⟨[.ref l, .int x u], []⟩) (fun _ R s => s.heap.get? l = some { cls := .type "tuple", dict := dd, data := .seq items n, slots := sl } ∧
      R (.ok (.ret (Value.ref s.heap.objs.size))) { s with heap := s.heap.push { cls := Value.type "tuple", data := Data.seq #[] }, toks := s.toks }) :=
  .of_wp fun prog w A R s h => by
    obtain ⟨hp, g, d, tk, os⟩ := s
    obtain ⟨hl, h⟩ := h
    have f1 := AutoSeq1.idx_int
    wp_walk using wpAny_loadPart' hl
    repeat (first
      | (refine wpAny_ite_false (decide_eq_false (by rw [c0]; exact Bool.false_ne_true)) ?_; wp_walk using wpAny_loadPart' hl)
      | (refine wpAny_ite_false (decide_eq_false (by rw [c1]; exact Bool.false_ne_true)) ?_; wp_walk using wpAny_loadPart' hl)
      | (refine wpAny_ite_true (decide_eq_true c2) ?_; wp_walk using wpAny_loadPart' hl))
    exact ⟨_, rfl, h⟩
theorem lim_eq : lim = sizeLine := by rw [sizeLine_eq]; rfl
section
variable {X : Cx}
/-- a list times an int, of any kind -/
def rRepLA (K : PySem.W.Frag) : R2 := fun x y H Q => ∃ l k xs, x = .ref l ∧ y = .int k ∧ SqL K H l xs ∧ -(2 ^ 63) ≤ k ∧ k < 2 ^ 63 ∧ xs.length * k.toNat ≤ sizeLine ∧
  ∀ p, H p = none → Q (.ref p) (upd H p (.lst (List.replicate k.toNat xs).flatten))
theorem op_repLA : OpR X (binaryOp .Mult) (rRepLA X.K) := by
  intro pins s σ H x y v u Q I rx ry h
  obtain ⟨l, k, xs, rfl, rfl, hH, h1, h2, hz, q⟩ := h
  cases rx
  obtain ⟨t, rfl⟩ := ry
  obtain ⟨its, r, ⟨⟨cls, dd, data, sl⟩, n, ho, hc, _, hd⟩, hs⟩ := I.list hH
  simp only at hc hd
  subst hc hd
  have hl : xs.length = its.length := r.length
  have hlen : its.toArray.size * k.toNat ≤ sizeLine := by rw [List.size_toArray, ← hl]; exact hz
  have hcap : ¬ its.toArray.size * k.toNat > (2 ^ 63 - 1) / 8 := by
    have : (sizeLine : Nat) ≤ (2 ^ 63 - 1) / 8 := by decide
    omega
  have hfit : ¬ (!Builtin.List.listFitsIndex k) = true := by
    rw [fitsIndex_both h1 h2]
    exact Bool.false_ne_true
  have hlong : ¬ Builtin.List.listTooLong (its.toArray.size * k.toNat) = true := by
    rw [notLongL hlen]
    exact Bool.false_ne_true
  have hnew : List.foldl (fun x1 x2 => x1 ++ x2) #[] (List.replicate (if its.toArray.isEmpty = true then 0 else k.toNat) its.toArray) = (List.replicate k.toNat its).flatten.toArray := by
    have f0 : ∀ m : Nat, List.foldl (fun x1 x2 => x1 ++ x2) #[] (List.replicate m its.toArray) = (List.replicate m its).flatten.toArray := fun m => by
      have := foldl_rep its m []
      rw [List.nil_append] at this
      exact this
    rw [f0]
    cases its with
    | nil => simp
    | cons a r' => rw [if_neg (by simp)]
  refine wpAny_binaryOp_repeat_ref (T := "list") (U := "int") (by decide) ⟨_, ho, rfl⟩ (fun s' => typeIs_int s' k t) noFill_list_mul F.fills_int_mul F.slot_int_rmul repeat_list F.slot_int_index.lookup
    (call_meets F.slot_int_rmul (typeIs_int s k t) F.entry_int_rmul (F.args_int_rmul_2 _ _) (int_rmul_listW k t l its.toArray n dd sl)
      ⟨ho, rfl, ⟨_, ho, rfl⟩, call_meets F.slot_list_mul ⟨_, ho, rfl⟩ F.entry_list_mul (F.args_list_mul_2 _ _) (list_mulW l its.toArray n dd sl k t hfit hcap hlong) ⟨ho, ?_⟩⟩)
  rw [hnew]
  exact ⟨.ref _, _, I.lnew (t' := s.toks) (r.rep k.toNat) (by rw [PyProof.Rows.lm_len_rep_flat, Nat.mul_comm]; exact hz), rfl, q _ I.fresh⟩
/-- a tuple times an int -/
def rRepTA (K : PySem.W.Frag) : R2 := fun x y H Q => ∃ l k xs, x = .ref l ∧ y = .int k ∧ SqT K H l xs ∧ -1000 ≤ k ∧ k ≤ 1000 ∧ xs.length ≤ 1000 ∧
  ((xs = [] ∨ k = 1) → Q (.ref l) H) ∧ ∀ p, H p = none → Q (.ref p) (upd H p (.tup (List.replicate k.toNat xs).flatten))
theorem op_repTA : OpR X (binaryOp .Mult) (rRepTA X.K) := by
  intro pins s σ H x y v u Q I rx ry h
  obtain ⟨l, k, xs, rfl, rfl, hH, h1, h2, hz, q1, q⟩ := h
  by_cases c : xs ≠ [] ∧ 2 ≤ k
  · exact op_repT pins s σ H _ _ v u Q I rx ry ⟨l, k, xs, rfl, rfl, hH, c.1, c.2, h2, hz, q⟩
  cases rx
  obtain ⟨t, rfl⟩ := ry
  obtain ⟨its, r, ⟨⟨cls, dd, data, sl⟩, ho, hc, n, hd⟩, hs⟩ := I.tuple hH
  simp only at hc hd
  subst hc hd
  have hle : its.length = xs.length := r.length.symm
  have c0 : (decide (k < -(2 ^ 63)) || decide (k ≥ 2 ^ 63)) = false := by
    rw [decide_eq_false (by omega), decide_eq_false (by omega)] <;> rfl
  have hie : its.toArray.isEmpty = xs.isEmpty := by
    cases r <;> rfl
  by_cases c1 : xs = [] ∨ k = 1
  · have e1 : (its.toArray.isEmpty || k == 1) = true := by
      rw [hie]
      rcases c1 with e | e <;> simp [e]
    refine wpAny_binaryOp_repeat_ref (T := "tuple") (U := "int") (by decide) ⟨_, ho, rfl⟩ (fun s' => typeIs_int s' k t) noFill_tuple_mul F.fills_int_mul F.slot_int_rmul repeat_tuple F.slot_int_index.lookup
      (call_meets F.slot_int_rmul (typeIs_int s k t) F.entry_int_rmul (F.args_int_rmul_2 _ _) (int_rmul_tuple k t l its.toArray n dd sl)
        ⟨ho, rfl, ⟨_, ho, rfl⟩, call_meets F.slot_tuple_mul ⟨_, ho, rfl⟩ F.entry_tuple_mul (F.args_tuple_mul_2 _ _) (tuple_mul1 l its.toArray n dd sl k t c0 e1) ⟨ho, ?_⟩⟩)
    exact ⟨.ref l, H, I, rfl, q1 c1⟩
  · have hne : xs ≠ [] := fun e => c1 (.inl e)
    have hk : k ≤ 0 := by
      by_cases hk : 2 ≤ k
      · exact absurd ⟨hne, hk⟩ c
      · have : k ≠ 1 := fun e => c1 (.inr e)
        omega
    have hne' : xs.isEmpty = false := by cases xs <;> simp_all
    have e1 : (its.toArray.isEmpty || k == 1) = false := by
      rw [hie, hne', Bool.false_or]
      exact beq_eq_false_iff_ne.mpr (by omega)
    have e2 : (decide (k ≤ 0) || its.toArray.isEmpty) = true := by
      rw [decide_eq_true hk]; rfl
    refine wpAny_binaryOp_repeat_ref (T := "tuple") (U := "int") (by decide) ⟨_, ho, rfl⟩ (fun s' => typeIs_int s' k t) noFill_tuple_mul F.fills_int_mul F.slot_int_rmul repeat_tuple F.slot_int_index.lookup
      (call_meets F.slot_int_rmul (typeIs_int s k t) F.entry_int_rmul (F.args_int_rmul_2 _ _) (int_rmul_tuple k t l its.toArray n dd sl)
        ⟨ho, rfl, ⟨_, ho, rfl⟩, call_meets F.slot_tuple_mul ⟨_, ho, rfl⟩ F.entry_tuple_mul (F.args_tuple_mul_2 _ _) (tuple_mul0 l its.toArray n dd sl k t c0 e1 e2) ⟨ho, ?_⟩⟩)
    have ek : k.toNat = 0 := by omega
    rw [ek] at q
    have q' := q s.heap.objs.size (I.hok.fresh (Nat.le_refl _))
    refine ⟨.ref s.heap.objs.size, _, I.laid (t' := s.toks) (o := .tup []) (fun b ob q => Heap.get?_push_of_some _ q) (Nat.le_refl _) ?_, rfl, by simpa using q'⟩
    exact ⟨Nat.zero_le _, [], .nil, IsTup.new _ _⟩
/-- the operators, on what they make of data -/
def rBin (K : PySem.W.Frag) (op : Operator) : R2 := fun x y H Q => ∃ F a b d, Ex F H ∧ RepO K F H x a ∧ RepO K F H y b ∧ binF op a b = some d ∧ PRes K F H true d Q
theorem PRes.int {K : PySem.W.Frag} {F H : Hp} {fr : Bool} {i : Int} {Q : VK} (h : PRes K F H fr (.int i) Q) : Q (.int i) H := h.dat (fun _ xs e => by cases e) _ (.int i)
theorem PRes.bl {K : PySem.W.Frag} {F H : Hp} {fr : Bool} {i : Bool} {Q : VK} (h : PRes K F H fr (.bl i) Q) : Q (.bl i) H := h.dat (fun _ xs e => by cases e) _ (.bl i)
theorem op_bin (op : Operator) : OpR X (binaryOp op) (rBin X.K op) := by
  intro pins s σ H x y v u Q I rx ry h
  obtain ⟨F, a, b, d, ex, ha, hb, hd, q⟩ := h
  unfold binF at hd
  split at hd
  · rename_i i j
    obtain rfl := ha.int
    obtain rfl := hb.int
    simp only [Option.map_eq_some_iff] at hd
    obtain ⟨k, hk, rfl⟩ := hd
    have q := q.int
    unfold binI at hk
    cases op
    case Add => cases hk; exact op_add pins s σ H _ _ v u Q I rx ry ⟨_, _, rfl, rfl, q⟩
    case Sub => cases hk; exact op_sub pins s σ H _ _ v u Q I rx ry ⟨_, _, rfl, rfl, q⟩
    case Mult =>
      simp only at hk
      split at hk
      · rename_i hc; cases hk; exact op_mulW pins s σ H _ _ v u Q I rx ry ⟨_, _, rfl, rfl, hc, q⟩
      · cases hk
    case FloorDiv =>
      simp only at hk
      split at hk
      · rename_i hc; cases hk; exact op_fdivW pins s σ H _ _ v u Q I rx ry ⟨_, _, rfl, rfl, hc, q⟩
      · split at hk
        · rename_i hc; cases hk; exact op_fdivN pins s σ H _ _ v u Q I rx ry ⟨_, _, rfl, rfl, hc, q⟩
        · cases hk
    case Mod =>
      simp only at hk
      split at hk
      · rename_i hc; cases hk; exact op_mod pins s σ H _ _ v u Q I rx ry ⟨_, _, rfl, rfl, hc, q⟩
      · split at hk
        · rename_i hc; cases hk; exact op_modN pins s σ H _ _ v u Q I rx ry ⟨_, _, rfl, rfl, hc, q⟩
        · cases hk
    case Pow =>
      simp only at hk
      split at hk
      · rename_i hc; cases hk; exact op_pow pins s σ H _ _ v u Q I rx ry ⟨_, _, rfl, rfl, hc, q⟩
      · cases hk
    case LShift =>
      simp only at hk
      split at hk
      · rename_i hc; cases hk; exact op_shl pins s σ H _ _ v u Q I rx ry ⟨_, _, rfl, rfl, hc, q⟩
      · cases hk
    case RShift =>
      simp only at hk
      split at hk
      · rename_i hc; cases hk; exact op_shr pins s σ H _ _ v u Q I rx ry ⟨_, _, rfl, rfl, hc, q⟩
      · cases hk
    case BitAnd => cases hk; exact op_and pins s σ H _ _ v u Q I rx ry ⟨_, _, rfl, rfl, q⟩
    case BitOr => cases hk; exact op_or pins s σ H _ _ v u Q I rx ry ⟨_, _, rfl, rfl, q⟩
    case BitXor => cases hk; exact op_xor pins s σ H _ _ v u Q I rx ry ⟨_, _, rfl, rfl, q⟩
    all_goals cases hk
  · rename_i xs ys
    split at hd
    · rename_i hc
      obtain ⟨rfl, hl⟩ := hc
      cases hd
      obtain ⟨p, vs, rfl, hp, r1⟩ := ha.tup ex
      obtain ⟨p2, ws, rfl, hp2, r2⟩ := hb.tup ex
      refine op_catA pins s σ H _ _ v u Q I rx ry ⟨p, p2, vs, ws, rfl, rfl, hp, hp2, ?_, fun e => ?_, fun e1 e2 => ?_, fun e1 e2 p hp => ?_⟩
      · rw [r1.length, r2.length, ← lim_eq]; exact hl
      · subst e
        cases r1
        rcases hb with hb | ⟨_, _, _, _, hb, _⟩
        · exact q.dat (fun _ xs e => by cases e) _ (by simpa using hb)
        · cases hb
      · subst e2
        cases r2
        rcases ha with ha | ⟨_, _, _, _, ha, _⟩
        · exact q.dat (fun _ xs e => by cases e) _ (by simpa using ha)
        · cases ha
      · exact q.tup _ _ _ hp rfl (r1.app r2)
    · cases hd
  · rename_i xs ys
    split at hd
    · rename_i hc
      obtain ⟨rfl, hl⟩ := hc
      cases hd
      obtain ⟨p, vs, rfl, hp, r1⟩ := ha.lst ex
      obtain ⟨p2, ws, rfl, hp2, r2⟩ := hb.lst ex
      exact op_catL pins s σ H _ _ v u Q I rx ry ⟨p, p2, vs, ws, rfl, rfl, hp, hp2, by rw [r1.length, r2.length, ← lim_eq]; exact hl, fun p hp => q.lst _ _ _ hp rfl (r1.app r2)⟩
    · cases hd
  · rename_i xs k
    split at hd
    · rename_i hc
      obtain ⟨rfl, h1, h2, h3⟩ := hc
      cases hd
      have ha' := ha
      obtain ⟨p, vs, rfl, hp, r1⟩ := ha.tup ex
      obtain rfl := hb.int
      have hl := r1.length
      refine op_repTA pins s σ H _ _ v u Q I rx ry ⟨p, k, vs, rfl, rfl, hp, h1, h2, by omega, fun e => ?_, fun p hp => q.tup _ _ _ hp rfl (r1.rep _)⟩
      have e2 : repL xs k = xs := by
        unfold repL
        rcases e with e | e
        · subst e; cases r1; simp
        · subst e; simp
      rw [e2] at q
      rcases ha' with h | ⟨_, _, _, _, h, _⟩
      · exact q.dat (fun _ xs e => by cases e) _ h
      · cases h
    · cases hd
  · rename_i xs k
    split at hd
    · rename_i hc
      obtain ⟨rfl, h1, h2, h3⟩ := hc
      cases hd
      obtain ⟨p, vs, rfl, hp, r1⟩ := ha.lst ex
      obtain rfl := hb.int
      have hl := r1.length
      exact op_repLA pins s σ H _ _ v u Q I rx ry ⟨p, k, vs, rfl, rfl, hp, by omega, by omega, by rw [hl, ← lim_eq]; exact h3, fun p hp => q.lst _ _ _ hp rfl (r1.rep _)⟩
    · cases hd
  · cases hd

def rNeg (K : PySem.W.Frag) : V → Hp → VK → Prop := fun x H Q => ∃ F i, Ex F H ∧ RepO K F H x (.int i) ∧ Q (.int (-i)) H
theorem op_negD : UnR X (unaryOp .USub) (rNeg X.K) := by
  intro pins s σ H x v Q I rx h
  obtain ⟨F, i, _, hx, q⟩ := h
  obtain rfl := hx.int
  exact un_neg pins s σ H _ v Q I rx ⟨i, rfl, q⟩

def rCmp (K : PySem.W.Frag) (op : CmpOp) : R2 := fun x y H Q => ∃ F a b c, Ex F H ∧ RepO K F H x a ∧ RepO K F H y b ∧ cmpF op a b = some c ∧ Q (.bl c) H
theorem rep_non_iff {K : PySem.W.Frag} {F H : Hp} {v : V} {d : D} (h : RepO K F H v d) : decide (v = V.non) = decide (d = D.non) := by
  rcases h with h | ⟨a, vs, xs, rfl, rfl, _⟩
  · cases h <;> simp
  · simp
theorem inF_ok {neg : Bool} {x : D} {xs : List D} {c : Bool} (h : inF neg x xs = some c) : SeqAt.shaped x.py = true ∧ SeqAt.shaped (PyData.list (D.py.pyAll xs)) = true ∧
    c = (if neg = true then !((D.py.pyAll xs).any fun y => PyData.eqv y x.py) else ((D.py.pyAll xs).any fun y => PyData.eqv y x.py)) := by
  unfold inF at h
  split at h
  · rename_i h1
    cases h
    exact ⟨h1.1, h1.2, rfl⟩
  · cases h
theorem rep_bl_iff {K : PySem.W.Frag} {F H : Hp} {v : V} {d : D} {c : Bool} (h : RepO K F H v d) : decide (v = V.bl c) = decide (d = D.bl c) := by
  rcases h with h | ⟨a, vs, xs, rfl, rfl, _⟩
  · cases h <;> simp
  · simp
theorem op_isB : OpR X (compareOp .Is) (fun x y H Q => ∃ F d c, RepO X.K F H x d ∧ y = .bl c ∧ Q (.bl (decide (x = .bl c))) H) := by
  intro pins s σ H x y v u Q I rx ry h
  obtain ⟨F, d, c, hr, rfl, q⟩ := h
  cases ry
  rcases hr with hr | ⟨a, vs, xs, rfl, rfl, _⟩
  · cases hr <;> first
      | (cases rx; exact wpAny_pure (fin_bl I q rfl))
      | (rename_i b; cases rx; exact is_bool (fin_bl I q (by cases b <;> cases c <;> rfl)))
      | (obtain ⟨t, rfl⟩ := rx; exact wpAny_pure (fin_bl I q rfl))
  · cases rx; exact wpAny_pure (fin_bl I q rfl)
theorem op_notB : OpR X (compareOp .IsNot) (fun x y H Q => ∃ F d c, RepO X.K F H x d ∧ y = .bl c ∧ Q (.bl (!decide (x = .bl c))) H) := by
  intro pins s σ H x y v u Q I rx ry h
  obtain ⟨F, d, c, hr, rfl, q⟩ := h
  cases ry
  rcases hr with hr | ⟨a, vs, xs, rfl, rfl, _⟩
  · cases hr <;> first
      | (cases rx; exact wpAny_pure (fin_bl I q rfl))
      | (rename_i b; cases rx; exact isnot_bool (fin_bl I q (by cases b <;> cases c <;> rfl)))
      | (obtain ⟨t, rfl⟩ := rx; exact wpAny_pure (fin_bl I q rfl))
  · cases rx; exact wpAny_pure (fin_bl I q rfl)
/-- comparisons, of data of any depth -/
theorem op_cmpD (hu : X.A.units + 65 < cLine) (op : CmpOp) : OpR X (compareOp op) (rCmp X.K op) := by
  intro pins s σ H x y v u Q I rx ry h
  obtain ⟨F, a, b, c, ex, ha, hb, hc, q⟩ := h
  unfold cmpF at hc
  split at hc
  · unfold eqF at hc
    split at hc
    · rename_i h
      cases hc
      exact op_eqD (by omega) pins s σ H _ _ v u Q I rx ry ⟨_, _, ha.dp ex, hb.dp ex, h.1, h.2, q⟩
    · cases hc
  · unfold eqF at hc
    split at hc
    · rename_i h
      cases hc
      exact op_neD (by omega) pins s σ H _ _ v u Q I rx ry ⟨_, _, ha.dp ex, hb.dp ex, h.1, h.2, q⟩
    · cases hc
  · cases hc
    obtain rfl := hb.non
    exact op_isN pins s σ H _ _ v u Q I rx ry ⟨rfl, by rw [rep_non_iff ha]; exact q⟩
  · cases hc
    obtain rfl := hb.non
    exact op_notN pins s σ H _ _ v u Q I rx ry ⟨rfl, by rw [rep_non_iff ha]; exact q⟩
  · cases hc
    obtain rfl := hb.bl
    exact op_isB pins s σ H _ _ v u Q I rx ry ⟨_, _, _, ha, rfl, by rw [rep_bl_iff ha]; exact q⟩
  · cases hc
    obtain rfl := hb.bl
    exact op_notB pins s σ H _ _ v u Q I rx ry ⟨_, _, _, ha, rfl, by rw [rep_bl_iff ha]; exact q⟩
  · cases hc; obtain rfl := ha.int; obtain rfl := hb.int
    exact op_lt pins s σ H _ _ v u Q I rx ry ⟨_, _, rfl, rfl, q⟩
  · cases hc; obtain rfl := ha.int; obtain rfl := hb.int
    exact op_le pins s σ H _ _ v u Q I rx ry ⟨_, _, rfl, rfl, q⟩
  · cases hc; obtain rfl := ha.int; obtain rfl := hb.int
    exact op_gt pins s σ H _ _ v u Q I rx ry ⟨_, _, rfl, rfl, q⟩
  · cases hc; obtain rfl := ha.int; obtain rfl := hb.int
    exact op_ge pins s σ H _ _ v u Q I rx ry ⟨_, _, rfl, rfl, q⟩
  · split at hc
    · rename_i ns ms e1 e2
      cases hc
      obtain ⟨p, vs, rfl, hp, r1⟩ := ha.tup ex
      obtain ⟨p2, ws, rfl, hp2, r2⟩ := hb.tup ex
      rw [r1.ints e1] at hp
      rw [r2.ints e2] at hp2
      exact op_ltT (by omega) pins s σ H _ _ v u Q I rx ry ⟨_, _, ns, ms, rfl, rfl, hp, hp2, q⟩
    · cases hc
  · obtain ⟨s1, s2, e⟩ := inF_ok hc
    subst e
    obtain ⟨as, r1⟩ := Dp.reads I _ _ _ (ha.dp ex) rx
    obtain ⟨bs, r2⟩ := Dp.reads I _ _ _ (hb.dp ex) ry
    rw [D.py] at r2
    exact SeqAt.in_tuple_reads r2 r1 (SeqAt.canLay_of_shaped s2) (SeqAt.canLay_of_shaped s1) (room_in_shaped s1 hu) ⟨.bl _, H, I, rfl, q⟩
  · obtain ⟨s1, s2, e⟩ := inF_ok hc
    subst e
    have hb' := hb.dp ex
    rw [D.py] at hb'
    exact op_inD hu pins s σ H _ _ v u Q I rx ry ⟨_, _, ha.dp ex, hb', s1, s2, q⟩
  · obtain ⟨s1, s2, e⟩ := inF_ok hc
    subst e
    obtain ⟨as, r1⟩ := Dp.reads I _ _ _ (ha.dp ex) rx
    obtain ⟨bs, r2⟩ := Dp.reads I _ _ _ (hb.dp ex) ry
    rw [D.py] at r2
    exact SeqAt.notIn_tuple_reads r2 r1 (SeqAt.canLay_of_shaped s2) (SeqAt.canLay_of_shaped s1) (room_in_shaped s1 hu) ⟨.bl _, H, I, rfl, q⟩
  · obtain ⟨s1, s2, e⟩ := inF_ok hc
    subst e
    have hb' := hb.dp ex
    rw [D.py] at hb'
    exact op_notInD hu pins s σ H _ _ v u Q I rx ry ⟨_, _, ha.dp ex, hb', s1, s2, q⟩
  · cases hc

/-- a[i] -/
def rIxD (K : PySem.W.Frag) : R2 := fun x y H Q => ∃ F a b d, Ex F H ∧ RepO K F H x a ∧ RepO K F H y b ∧ ixF a b = some d ∧ ∀ v, Rep K F v d → Q v H
theorem atI_rep {K : PySem.W.Frag} {F : Hp} {vs : List V} {xs : List D} {i : Int} {d : D} (r : RepAll K F vs xs) (h : atI xs i = some d) : ∃ v, atI vs i = some v ∧ Rep K F v d := by
  unfold atI at h ⊢
  rw [r.length]
  cases e : ixN xs.length i with
  | none => rw [e] at h; cases h
  | some j =>
    rw [e] at h
    exact r.get' h
theorem ix_D : IxR X (rIxD X.K) := by
  intro value slice pins s σ H x y v u Q I rx ry h hs
  obtain ⟨F, a, b, d, ex, ha, hb, hd, q⟩ := h
  unfold ixF at hd
  split at hd
  · obtain ⟨p, vs, rfl, hp, r1⟩ := ha.tup ex
    obtain rfl := hb.int
    obtain ⟨z, hz, hr⟩ := atI_rep r1 hd
    exact ix_tup value slice pins s σ H _ _ v u Q I rx ry ⟨_, _, _, _, rfl, rfl, hp, hz, q _ hr⟩ hs
  · obtain ⟨p, vs, rfl, hp, r1⟩ := ha.lst ex
    obtain rfl := hb.int
    obtain ⟨z, hz, hr⟩ := atI_rep r1 hd
    exact ix_list value slice pins s σ H _ _ v u Q I rx ry ⟨_, _, _, _, rfl, rfl, hp, hz, q _ hr⟩ hs
  · cases hd
/-- a[lo:hi] -/
def rSlD (K : PySem.W.Frag) : V → Option Int → Option Int → Hp → VK → Prop := fun x lo hi H Q => ∃ F a d, Ex F H ∧ RepO K F H x a ∧ slF lo hi a = some d ∧ PRes K F H true d Q
theorem cut_rep {K : PySem.W.Frag} {F : Hp} {vs : List V} {xs : List D} {lo hi : Option Int} (r : RepAll K F vs xs) : RepAll K F (cutV vs lo hi) (cutL xs lo hi) := by
  unfold cutV cutL
  rw [r.length]
  exact (r.drop _).take _
theorem cutL_whole {xs : List D} {lo hi : Option Int} (h : HT.sIx xs.length 0 lo = 0 ∧ HT.sIx xs.length xs.length hi = xs.length) : cutL xs lo hi = xs := by
  unfold cutL
  rw [h.1, h.2]
  simp
theorem sl_D : SlR X (rSlD X.K) := by
  intro pins s σ H x v vl vu lo hi sl Q I rx hs pl pu h
  obtain ⟨F, a, d, ex, ha, hd, q⟩ := h
  unfold slF at hd
  split at hd
  · cases hd
    have ha' := ha
    obtain ⟨p, vs, rfl, hp, r1⟩ := ha.tup ex
    refine sl_tupA pins s σ H _ v vl vu lo hi sl Q I rx hs pl pu ⟨p, vs, rfl, hp, fun e => ?_, fun _ p hp => q.tup _ _ _ hp rfl (cut_rep r1)⟩
    rw [r1.length] at e
    rw [cutL_whole e] at q
    rcases ha' with h | ⟨_, _, _, _, h, _⟩
    · exact q.dat (fun _ xs e => by cases e) _ h
    · cases h
  · cases hd
    obtain ⟨p, vs, rfl, hp, r1⟩ := ha.lst ex
    exact sl_list pins s σ H _ v vl vu lo hi sl Q I rx hs pl pu ⟨p, vs, rfl, hp, fun p hp => q.lst _ _ _ hp rfl (cut_rep r1)⟩
  · cases hd
end
end Px
set_option Elab.async false
set_option linter.all false
set_option maxRecDepth 100000
set_option maxHeartbeats 2000000
namespace Px
open PySem PySem.Spec PyProof.Rows L2
/-- values and the data they stand for, one by one -/
inductive RepOs (K : PySem.W.Frag) (F H : Hp) : List V → List D → Prop
  | nil : RepOs K F H [] []
  | cons {v : V} {vs : List V} {d : D} {ds : List D} : RepO K F H v d → RepOs K F H vs ds → RepOs K F H (v :: vs) (d :: ds)
theorem maxL_ok : ∀ {ns : List Int} {m : Int}, maxL ns = some m → m ∈ ns ∧ ∀ y ∈ ns, y ≤ m
  | [], _, h => by cases h
  | x :: xs, m, h => by
    have h' : xs.foldl (fun m y => if m < y then y else m) x = m := Option.some.inj h
    have gen : ∀ (l : List Int) (a : Int), (l.foldl (fun m y => if m < y then y else m) a = a ∨ l.foldl (fun m y => if m < y then y else m) a ∈ l) ∧ a ≤ l.foldl (fun m y => if m < y then y else m) a ∧ ∀ y ∈ l, y ≤ l.foldl (fun m y => if m < y then y else m) a := by
      intro l
      induction l with
      | nil => intro a; exact ⟨.inl rfl, Int.le_refl _, fun y hy => absurd hy (by simp)⟩
      | cons z l ih =>
        intro a
        obtain ⟨h1, h2, h3⟩ := ih (if a < z then z else a)
        simp only [List.foldl_cons]
        have ha : a ≤ (if a < z then z else a) := by split <;> omega
        have hz : z ≤ (if a < z then z else a) := by split <;> omega
        refine ⟨?_, Int.le_trans ha h2, fun y hy => ?_⟩
        · rcases h1 with e | e
          · rw [e]
            split
            · exact .inr (by simp)
            · exact .inl rfl
          · exact .inr (List.mem_cons_of_mem _ e)
        · rcases List.mem_cons.mp hy with e | e
          · subst e; exact Int.le_trans hz h2
          · exact h3 y e
    obtain ⟨h1, h2, h3⟩ := gen xs x
    rw [h'] at h1 h2 h3
    refine ⟨?_, fun y hy => ?_⟩
    · rcases h1 with e | e
      · rw [e]; simp
      · exact List.mem_cons_of_mem _ e
    · rcases List.mem_cons.mp hy with e | e
      · subst e; exact h2
      · exact h3 y e
theorem minL_ok : ∀ {ns : List Int} {m : Int}, minL ns = some m → m ∈ ns ∧ ∀ y ∈ ns, m ≤ y
  | [], _, h => by cases h
  | x :: xs, m, h => by
    have h' : xs.foldl (fun m y => if y < m then y else m) x = m := Option.some.inj h
    have gen : ∀ (l : List Int) (a : Int), (l.foldl (fun m y => if y < m then y else m) a = a ∨ l.foldl (fun m y => if y < m then y else m) a ∈ l) ∧ l.foldl (fun m y => if y < m then y else m) a ≤ a ∧ ∀ y ∈ l, l.foldl (fun m y => if y < m then y else m) a ≤ y := by
      intro l
      induction l with
      | nil => intro a; exact ⟨.inl rfl, Int.le_refl _, fun y hy => absurd hy (by simp)⟩
      | cons z l ih =>
        intro a
        obtain ⟨h1, h2, h3⟩ := ih (if z < a then z else a)
        simp only [List.foldl_cons]
        have ha : (if z < a then z else a) ≤ a := by split <;> omega
        have hz : (if z < a then z else a) ≤ z := by split <;> omega
        refine ⟨?_, Int.le_trans h2 ha, fun y hy => ?_⟩
        · rcases h1 with e | e
          · rw [e]
            split
            · exact .inr (by simp)
            · exact .inl rfl
          · exact .inr (List.mem_cons_of_mem _ e)
        · rcases List.mem_cons.mp hy with e | e
          · subst e; exact Int.le_trans h2 hz
          · exact h3 y e
    obtain ⟨h1, h2, h3⟩ := gen xs x
    rw [h'] at h1 h2 h3
    refine ⟨?_, fun y hy => ?_⟩
    · rcases h1 with e | e
      · rw [e]; simp
      · exact List.mem_cons_of_mem _ e
    · rcases List.mem_cons.mp hy with e | e
      · subst e; exact h2
      · exact h3 y e
def biV (f : BI) : Value := if f.isTy then .type f.nm else .builtin f.nm
def rBi (K : PySem.W.Frag) (f : BI) : List V → Hp → VK → Prop := fun vs H Q => ∃ F ds d, Ex F H ∧ RepOs K F H vs ds ∧ biF f ds = some d ∧ PRes K F H (freshP (.bi f)) d Q
section
variable {X : Cx}
theorem call_bi (hc : X.calm = true) (f : BI) : CallR X (biV f) (rBi X.K f) := by
  intro pins s σ H vs us Q I r h
  obtain ⟨F, ds, d, ex, hr, hd, q⟩ := h
  unfold biF at hd
  split at hd
  · cases hd
    cases hr with | cons ha ht => cases ht; obtain ⟨p, ws, rfl, hp, r1⟩ := ha.tup ex; exact call_len_seq pins s σ H _ us Q I r ⟨p, ws, rfl, .inr hp, by rw [r1.length]; exact q.int⟩
  · cases hd
    cases hr with | cons ha ht => cases ht; obtain ⟨p, ws, rfl, hp, r1⟩ := ha.lst ex; exact call_len_seq pins s σ H _ us Q I r ⟨p, ws, rfl, .inl hp, by rw [r1.length]; exact q.int⟩
  · cases hd
    cases hr with
    | cons ha ht =>
      cases ht
      have ha' := ha
      obtain ⟨p, ws, rfl, hp, r1⟩ := ha.tup ex
      rcases ha' with h | ⟨_, _, _, _, h, _⟩
      · exact call_tuple_of pins s σ H _ us Q I r ⟨p, ws, rfl, .inr ⟨hp, q.dat (fun _ xs e => by cases e) _ h⟩⟩
      · cases h
  · cases hd
    cases hr with | cons ha ht => cases ht; obtain ⟨p, ws, rfl, hp, r1⟩ := ha.lst ex; exact call_tuple_of pins s σ H _ us Q I r ⟨p, ws, rfl, .inl ⟨hp, fun l hl => q.tup _ _ _ hl rfl r1⟩⟩
  · cases hd
    cases hr with | cons ha ht => cases ht; obtain ⟨p, ws, rfl, hp, r1⟩ := ha.tup ex; exact call_list_of pins s σ H _ us Q I r ⟨p, ws, rfl, .inr hp, fun l hl => q.lst _ _ _ hl rfl r1⟩
  · cases hd
    cases hr with | cons ha ht => cases ht; obtain ⟨p, ws, rfl, hp, r1⟩ := ha.lst ex; exact call_list_of pins s σ H _ us Q I r ⟨p, ws, rfl, .inl hp, fun l hl => q.lst _ _ _ hl rfl r1⟩
  · simp only [Option.map_eq_some_iff] at hd
    obtain ⟨ns, e, rfl⟩ := hd
    cases hr with | cons ha ht => cases ht; obtain ⟨p, ws, rfl, hp, r1⟩ := ha.lst ex; rw [r1.ints e] at hp; exact cr_sum hc pins s σ H _ us Q I r ⟨p, ns, rfl, hp, q.int⟩
  · simp only [Option.map_eq_some_iff] at hd
    obtain ⟨ns, e, rfl⟩ := hd
    cases hr with | cons ha ht => cases ht; obtain ⟨p, ws, rfl, hp, r1⟩ := ha.lst ex; rw [r1.bls e] at hp; exact cr_all hc pins s σ H _ us Q I r ⟨p, ns, rfl, hp, q.bl⟩
  · simp only [Option.map_eq_some_iff] at hd
    obtain ⟨ns, e, rfl⟩ := hd
    cases hr with | cons ha ht => cases ht; obtain ⟨p, ws, rfl, hp, r1⟩ := ha.lst ex; rw [r1.bls e] at hp; exact cr_any hc pins s σ H _ us Q I r ⟨p, ns, rfl, hp, q.bl⟩
  · simp only [Option.bind_eq_some_iff, Option.map_eq_some_iff] at hd
    obtain ⟨ns, e, m, em, rfl⟩ := hd
    obtain ⟨m1, m2⟩ := maxL_ok em
    cases hr with
    | cons ha ht =>
      cases ht
      obtain ⟨p, ws, rfl, hp, r1⟩ := ha.lst ex
      rw [r1.ints e] at hp
      refine cr_max hc pins s σ H _ us Q I r ⟨p, ns, rfl, hp, by cases ns with | nil => simp at m1 | cons a b => simp, fun m' h1 h2 => ?_⟩
      have : m' = m := Int.le_antisymm (m2 _ h1) (h2 _ m1)
      subst this; exact q.int
  · simp only [Option.bind_eq_some_iff, Option.map_eq_some_iff] at hd
    obtain ⟨ns, e, m, em, rfl⟩ := hd
    obtain ⟨m1, m2⟩ := minL_ok em
    cases hr with
    | cons ha ht =>
      cases ht
      obtain ⟨p, ws, rfl, hp, r1⟩ := ha.lst ex
      rw [r1.ints e] at hp
      refine cr_min hc pins s σ H _ us Q I r ⟨p, ns, rfl, hp, by cases ns with | nil => simp at m1 | cons a b => simp, fun m' h1 h2 => ?_⟩
      have : m' = m := Int.le_antisymm (h2 _ m1) (m2 _ h1)
      subst this; exact q.int
  · cases hd
    cases hr with | cons ha ht => cases ht with | cons hb ht => cases ht; obtain rfl := ha.int; obtain rfl := hb.int; exact call_max2 hc pins s σ H _ us Q I r ⟨_, _, rfl, q.int⟩
  · cases hd
    cases hr with | cons ha ht => cases ht with | cons hb ht => cases ht; obtain rfl := ha.int; obtain rfl := hb.int; exact call_min2 hc pins s σ H _ us Q I r ⟨_, _, rfl, q.int⟩
  · cases hd
    cases hr with | cons ha ht => cases ht; obtain rfl := ha.int; exact call_abs pins s σ H _ us Q I r ⟨_, rfl, q.int⟩
  · cases hd
    cases hr with | cons ha ht => cases ht; obtain rfl := ha.int; exact call_int1 pins s σ H _ us Q I r (.inl ⟨_, rfl, q.int⟩)
  · cases hd
    cases hr with | cons ha ht => cases ht; obtain rfl := ha.bl; exact call_int1 pins s σ H _ us Q I r (.inr ⟨_, rfl, q.int⟩)
  · cases hd
end
end Px
set_option Elab.async false
set_option linter.all false
set_option maxRecDepth 100000
set_option maxHeartbeats 2000000
namespace Px
open PySem PySem.Spec PyProof.Rows L2

/-! ### the state: what stands still (F), what must not change (B), the slots -/
structure Fm where
  B : Hp
  F0 : Hp
def SlotOk (K : PySem.W.Frag) (fm : Fm) (F H : Hp) (v : V) : Slot → Prop
  | .dat d => Rep K F v d
  | .own xs => ∃ p vs, v = .ref p ∧ fm.B p = none ∧ F p = none ∧ H p = some (.lst vs) ∧ RepAll K F vs xs
structure OK (K : PySem.W.Frag) (fm : Fm) (F : Hp) (ρ : PEnv) (σ : L2.St) (H : Hp) : Prop where
  exB : Ex fm.B H
  exF : Ex F H
  base : ∀ a, fm.B a ≠ none → F a = fm.F0 a
  len : ρ.length = σ.length
  slot : ∀ i s, getS ρ i = some s → ∃ v, σ[i]? = some (some v) ∧ SlotOk K fm F H v s
  inj : ∀ i j xs ys, i ≠ j → getS ρ i = some (.own xs) → getS ρ j = some (.own ys) → σ[i]? ≠ σ[j]?
theorem getS_some {ρ : PEnv} {i : Nat} {s : Slot} (h : getS ρ i = some s) : i < ρ.length ∧ ρ[i]? = some (some s) := by
  unfold getS at h
  rw [List.getD_eq_getElem?_getD] at h
  cases e : ρ[i]? with
  | none => rw [e] at h; cases h
  | some o =>
    rw [e] at h
    have h' : o = some s := h
    subst h'
    exact ⟨(List.getElem?_eq_some_iff.mp e).1, rfl⟩
theorem getS_set {ρ : PEnv} {i j : Nat} {x : Option Slot} (h : i < ρ.length) : getS (ρ.set i x) j = if j = i then x else getS ρ j := by
  unfold getS
  rw [List.getD_eq_getElem?_getD, List.getD_eq_getElem?_getD]
  by_cases e : j = i
  · subst e; rw [List.getElem?_set_self h, if_pos rfl]; rfl
  · rw [List.getElem?_set_ne (Ne.symm e), if_neg e]
theorem getS_set_ne {ρ : PEnv} {i j : Nat} {x : Option Slot} (h : j ≠ i) : getS (ρ.set i x) j = getS ρ j := by
  unfold getS
  rw [List.getD_eq_getElem?_getD, List.getD_eq_getElem?_getD, List.getElem?_set_ne (Ne.symm h)]
theorem getS_set_none {ρ : PEnv} {i j : Nat} {s : Slot} (h : getS (ρ.set i none) j = some s) : j ≠ i ∧ getS ρ j = some s := by
  by_cases e : j = i
  · subst e
    obtain ⟨h1, h2⟩ := getS_some h
    rw [List.getElem?_set_self (by simpa using h1)] at h2
    cases h2
  · rw [getS_set_ne e] at h; exact ⟨e, h⟩
section
variable {K : PySem.W.Frag} {fm : Fm} {F F' H H' : Hp} {ρ ρ' : PEnv} {σ σ' : L2.St}
theorem SlotOk.mono {v : V} {s : Slot} (e : Ex F F') (eH : Ex F' H') (hb : ∀ p vs, fm.B p = none → F p = none → H p = some (.lst vs) → F' p = none ∧ H' p = some (.lst vs)) (h : SlotOk K fm F H v s) : SlotOk K fm F' H' v s := by
  cases s with
  | dat d => exact Rep.mono e h
  | own xs =>
    obtain ⟨p, vs, h1, h2, h3, h4, h5⟩ := h
    obtain ⟨q1, q2⟩ := hb p vs h2 h3 h4
    exact ⟨p, vs, h1, h2, q1, q2, h5.mono e⟩
/-- a new object that stands still from now on -/
theorem OK.frozen (o : OK K fm F ρ σ H) {q : Addr} {x : HO} (hq : H q = none) : OK K fm (upd F q x) ρ σ (upd H q x) ∧ Ex F (upd F q x) := by
  have hF : F q = none := o.exF.fresh hq
  have hB : fm.B q = none := o.exB.fresh hq
  have e1 : Ex F (upd F q x) := Ex.new hF
  refine ⟨⟨fun a u e => ?_, fun a u e => ?_, fun a h => ?_, o.len, fun i s e => ?_, o.inj⟩, e1⟩
  · rw [upd_ne (ne_of_none e hB)]; exact o.exB a u e
  · by_cases c : a = q
    · subst c; rw [upd_same] at e ⊢; exact e
    · rw [upd_ne c] at e ⊢; exact o.exF a u e
  · rw [upd_ne (fun z => h (by rw [z]; exact hB))]; exact o.base a h
  · obtain ⟨v, h1, h2⟩ := o.slot i s e
    refine ⟨v, h1, h2.mono (H := H) e1 (fun a u e => ?_) fun p vs b f h => ?_⟩
    · by_cases c : a = q
      · subst c; rw [upd_same] at e ⊢; exact e
      · rw [upd_ne c] at e ⊢; exact o.exF a u e
    · have c : p ≠ q := ne_of_none h hq
      rw [upd_ne c, upd_ne c]; exact ⟨f, h⟩
/-- a new object of our own -/
theorem OK.newH (o : OK K fm F ρ σ H) {q : Addr} {x : HO} (hq : H q = none) : OK K fm F ρ σ (upd H q x) := by
  have hB : fm.B q = none := o.exB.fresh hq
  have hF : F q = none := o.exF.fresh hq
  refine ⟨fun a u e => ?_, fun a u e => ?_, o.base, o.len, fun i s e => ?_, o.inj⟩
  · rw [upd_ne (ne_of_none e hB)]; exact o.exB a u e
  · rw [upd_ne (ne_of_none e hF)]; exact o.exF a u e
  · obtain ⟨v, h1, h2⟩ := o.slot i s e
    refine ⟨v, h1, h2.mono (H := H) (Ex.refl F) (fun a u e => ?_) fun p vs b f h => ?_⟩
    · rw [upd_ne (ne_of_none e hF)]; exact o.exF a u e
    · rw [upd_ne (ne_of_none h hq)]; exact ⟨f, h⟩
/-- an object that nothing else knows (B, F, the slots) is changed -/
theorem OK.chg (o : OK K fm F ρ σ H) {q : Addr} {x : HO} (hB : fm.B q = none) (hF : F q = none) (hs : ∀ i xs, getS ρ i = some (.own xs) → σ[i]? ≠ some (some (.ref q))) : OK K fm F ρ σ (upd H q x) := by
  refine ⟨fun a u e => ?_, fun a u e => ?_, o.base, o.len, fun i s e => ?_, o.inj⟩
  · rw [upd_ne (ne_of_none e hB)]; exact o.exB a u e
  · rw [upd_ne (ne_of_none e hF)]; exact o.exF a u e
  · obtain ⟨v, h1, h2⟩ := o.slot i s e
    cases s with
    | dat d => exact ⟨v, h1, h2⟩
    | own xs =>
      obtain ⟨p, vs, rfl, h3, h4, h5, h6⟩ := h2
      have hn : p ≠ q := fun z => hs i xs e (by rw [h1, z])
      exact ⟨_, h1, p, vs, rfl, h3, h4, by rw [upd_ne hn]; exact h5, h6⟩
/-- a slot is stored to: what stands still -/
theorem OK.setD (o : OK K fm F ρ σ H) {i : Nat} {v : V} {d : D} (h : Rep K F v d) : OK K fm F (ρ.set i (some (.dat d))) (σ.set i (some v)) H := by
  refine ⟨o.exB, o.exF, o.base, by simp [o.len], fun j s e => ?_, fun j k xs ys hjk e1 e2 => ?_⟩
  · by_cases hi : i < ρ.length
    · rw [getS_set hi] at e
      by_cases c : j = i
      · rw [if_pos c] at e; cases e; subst c
        exact ⟨v, by rw [List.getElem?_set_self (by rw [← o.len]; exact hi)], h⟩
      · rw [if_neg c] at e
        obtain ⟨w, h1, h2⟩ := o.slot j s e
        exact ⟨w, by rw [List.getElem?_set_ne (Ne.symm c)]; exact h1, h2⟩
    · have e3 : ρ.set i (some (.dat d)) = ρ := List.set_eq_of_length_le (by omega)
      have e4 : σ.set i (some v) = σ := List.set_eq_of_length_le (by rw [← o.len]; omega)
      rw [e3] at e; rw [e4]; exact o.slot j s e
  · by_cases hi : i < ρ.length
    · rw [getS_set hi] at e1 e2
      by_cases c1 : j = i
      · rw [if_pos c1] at e1; cases e1
      · by_cases c2 : k = i
        · rw [if_pos c2] at e2; cases e2
        · rw [if_neg c1] at e1; rw [if_neg c2] at e2
          rw [List.getElem?_set_ne (Ne.symm c1), List.getElem?_set_ne (Ne.symm c2)]
          exact o.inj j k xs ys hjk e1 e2
    · have e3 : ρ.set i (some (.dat d)) = ρ := List.set_eq_of_length_le (by omega)
      have e4 : σ.set i (some v) = σ := List.set_eq_of_length_le (by rw [← o.len]; omega)
      rw [e3] at e1 e2; rw [e4]; exact o.inj j k xs ys hjk e1 e2
/-- a slot is forgotten -/
theorem OK.unset (o : OK K fm F ρ σ H) (i : Nat) : OK K fm F (ρ.set i none) σ H :=
  ⟨o.exB, o.exF, o.base, by simp [o.len], fun j s e => o.slot j s (getS_set_none e).2, fun j k xs ys hjk e1 e2 => o.inj j k xs ys hjk (getS_set_none e1).2 (getS_set_none e2).2⟩
theorem OK.unset2 (o : OK K fm F ρ σ H) (i : Nat) : OK K fm F (ρ.set i none) (σ.set i none) H := by
  refine ⟨o.exB, o.exF, o.base, by simp [o.len], fun j s e => ?_, fun j k xs ys hjk e1 e2 => ?_⟩
  · obtain ⟨c, e⟩ := getS_set_none e
    rw [List.getElem?_set_ne (Ne.symm c)]; exact o.slot j s e
  · obtain ⟨c1, e1⟩ := getS_set_none e1
    obtain ⟨c2, e2⟩ := getS_set_none e2
    rw [List.getElem?_set_ne (Ne.symm c1), List.getElem?_set_ne (Ne.symm c2)]; exact o.inj j k xs ys hjk e1 e2
/-- a list of our own at p that no slot knows -/
def Mine (K : PySem.W.Frag) (fm : Fm) (F : Hp) (ρ : PEnv) (σ : L2.St) (H : Hp) (v : V) (xs : List D) : Prop :=
  ∃ p vs, v = .ref p ∧ fm.B p = none ∧ F p = none ∧ H p = some (.lst vs) ∧ RepAll K F vs xs ∧ ∀ i ys, getS ρ i = some (.own ys) → σ[i]? ≠ some (some (.ref p))
theorem OK.setO (o : OK K fm F ρ σ H) {i : Nat} {v : V} {xs : List D} (h : Mine K fm F ρ σ H v xs) : OK K fm F (ρ.set i (some (.own xs))) (σ.set i (some v)) H := by
  obtain ⟨p, vs, rfl, h1, h2, h3, h4, h5⟩ := h
  by_cases hi : i < ρ.length
  · refine ⟨o.exB, o.exF, o.base, by simp [o.len], fun j s e => ?_, fun j k ys zs hjk e1 e2 => ?_⟩
    · rw [getS_set hi] at e
      by_cases c : j = i
      · rw [if_pos c] at e; cases e; subst c
        exact ⟨_, by rw [List.getElem?_set_self (by rw [← o.len]; exact hi)], p, vs, rfl, h1, h2, h3, h4⟩
      · rw [if_neg c] at e
        obtain ⟨w, q1, q2⟩ := o.slot j s e
        exact ⟨w, by rw [List.getElem?_set_ne (Ne.symm c)]; exact q1, q2⟩
    · rw [getS_set hi] at e1 e2
      by_cases c1 : j = i
      · have c2 : k ≠ i := fun z => hjk (c1.trans z.symm)
        rw [if_neg c2] at e2
        rw [c1, List.getElem?_set_self (by rw [← o.len]; exact hi), List.getElem?_set_ne (Ne.symm c2)]
        exact Ne.symm (h5 k zs e2)
      · rw [if_neg c1] at e1
        by_cases c2 : k = i
        · rw [c2, List.getElem?_set_self (by rw [← o.len]; exact hi), List.getElem?_set_ne (Ne.symm c1)]
          exact h5 j ys e1
        · rw [if_neg c2] at e2
          rw [List.getElem?_set_ne (Ne.symm c1), List.getElem?_set_ne (Ne.symm c2)]
          exact o.inj j k ys zs hjk e1 e2
  · have e3 : ρ.set i (some (.own xs)) = ρ := List.set_eq_of_length_le (by omega)
    have e4 : σ.set i (some (V.ref p)) = σ := List.set_eq_of_length_le (by rw [← o.len]; omega)
    rw [e3, e4]; exact o
/-- a list of our own stands still from now on -/
theorem OK.freeze (o : OK K fm F ρ σ H) {p : Addr} {vs : List V} {xs : List D} (h1 : fm.B p = none) (h2 : F p = none) (h3 : H p = some (.lst vs)) (h4 : RepAll K F vs xs) (h5 : ∀ i ys, getS ρ i = some (.own ys) → σ[i]? ≠ some (some (.ref p))) :
    OK K fm (L2.upd F p (.lst vs)) ρ σ H ∧ Ex F (L2.upd F p (.lst vs)) ∧ Rep K (L2.upd F p (.lst vs)) (.ref p) (.lst xs) := by
  have e1 : Ex F (L2.upd F p (.lst vs)) := Ex.new h2
  have e2 : Ex (L2.upd F p (.lst vs)) H := fun a u e => by
    by_cases c : a = p
    · subst c; rw [upd_same] at e; cases e; exact h3
    · rw [upd_ne c] at e; exact o.exF a u e
  refine ⟨⟨o.exB, e2, fun a h => ?_, o.len, fun i s e => ?_, o.inj⟩, e1, .lst (SqL.of upd_same) (h4.mono e1)⟩
  · rw [upd_ne (fun z => h (by rw [z]; exact h1))]; exact o.base a h
  · obtain ⟨v, q1, q2⟩ := o.slot i s e
    cases s with
    | dat d => exact ⟨v, q1, Rep.mono e1 q2⟩
    | own ys =>
      obtain ⟨a, ws, rfl, b1, b2, b3, b4⟩ := q2
      have hn : a ≠ p := fun z => h5 i ys e (by rw [q1, z])
      exact ⟨_, q1, a, ws, rfl, b1, by rw [upd_ne hn]; exact b2, b3, b4.mono e1⟩
/-- the slot i, a list of our own, taken out -/
theorem OK.takeO (o : OK K fm F ρ σ H) {i : Nat} {xs : List D} (h : getS ρ i = some (.own xs)) : ∃ v, σ[i]? = some (some v) ∧ Mine K fm F (ρ.set i none) σ H v xs := by
  obtain ⟨v, h1, p, vs, rfl, q1, q2, q3, q4⟩ := o.slot i _ h
  refine ⟨_, h1, p, vs, rfl, q1, q2, q3, q4, fun j ys e => ?_⟩
  obtain ⟨c, e⟩ := getS_set_none e
  rw [← h1]
  exact o.inj j i ys xs c e h
/-- a temporary object of our own is kept by what runs -/
def Fm.keep (fm : Fm) (q : Addr) (x : HO) : Fm := ⟨L2.upd fm.B q x, fun a => if a = q then none else fm.F0 a⟩
theorem OK.keep (o : OK K fm F ρ σ H) {q : Addr} {x : HO} (hF : F q = none) (hH : H q = some x) (hs : ∀ i xs, getS ρ i = some (.own xs) → σ[i]? ≠ some (some (.ref q))) : OK K (fm.keep q x) F ρ σ H := by
  refine ⟨fun a u e => ?_, o.exF, fun a h => ?_, o.len, fun i s e => ?_, o.inj⟩
  · by_cases c : a = q
    · subst c
      have e' : L2.upd fm.B a x a = some u := e
      rw [upd_same] at e'; cases e'; exact hH
    · have e' : L2.upd fm.B q x a = some u := e
      rw [upd_ne c] at e'; exact o.exB a u e'
  · show F a = if a = q then none else fm.F0 a
    by_cases c : a = q
    · rw [if_pos c, c]; exact hF
    · rw [if_neg c]
      have h' : L2.upd fm.B q x a ≠ none := h
      rw [upd_ne c] at h'; exact o.base a h'
  · obtain ⟨v, h1, h2⟩ := o.slot i s e
    cases s with
    | dat d => exact ⟨v, h1, h2⟩
    | own xs =>
      obtain ⟨p, vs, rfl, b1, b2, b3, b4⟩ := h2
      have hn : p ≠ q := fun z => hs i xs e (by rw [h1, z])
      exact ⟨_, h1, p, vs, rfl, (show L2.upd fm.B q x p = none by rw [upd_ne hn]; exact b1), b2, b3, b4⟩
theorem OK.unkeep {q : Addr} {x : HO} (hB : fm.B q = none) (o : OK K (fm.keep q x) F ρ σ H) : OK K fm F ρ σ H ∧ F q = none ∧ H q = some x ∧ ∀ i xs, getS ρ i = some (.own xs) → σ[i]? ≠ some (some (.ref q)) := by
  have hF : F q = none := by
    have := o.base q (by show L2.upd fm.B q x q ≠ none; rw [upd_same]; simp)
    rw [this]; show (if q = q then none else _) = none; rw [if_pos rfl]
  refine ⟨⟨fun a u e => ?_, o.exF, fun a h => ?_, o.len, fun i s e => ?_, o.inj⟩, hF, ?_, fun i xs e z => ?_⟩
  · exact o.exB a u (by show L2.upd fm.B q x a = some u; rw [upd_ne (ne_of_none e hB)]; exact e)
  · have hn : a ≠ q := fun z => h (by rw [z]; exact hB)
    have := o.base a (by show L2.upd fm.B q x a ≠ none; rw [upd_ne hn]; exact h)
    rw [this]; show (if a = q then none else _) = _; rw [if_neg hn]
  · obtain ⟨v, h1, h2⟩ := o.slot i s e
    cases s with
    | dat d => exact ⟨v, h1, h2⟩
    | own xs =>
      obtain ⟨p, vs, rfl, b1, b2, b3, b4⟩ := h2
      have hn : p ≠ q := fun z => by
        have b1' : L2.upd fm.B q x p = none := b1
        rw [z, upd_same] at b1'; cases b1'
      have b1' : L2.upd fm.B q x p = none := b1
      rw [upd_ne hn] at b1'
      exact ⟨_, h1, p, vs, rfl, b1', b2, b3, b4⟩
  · exact o.exB q x (by show L2.upd fm.B q x q = some x; rw [upd_same])
  · obtain ⟨v, h1, p, vs, rfl, b1, b2, b3, b4⟩ := o.slot i _ e
    rw [h1] at z; cases z
    have b1' : L2.upd fm.B q x q = none := b1
    rw [upd_same] at b1'; cases b1'
end

/-! ### readings by the evaluator -/
def tEv (K : PySem.W.Frag) (g : PEnv → Out (D × PEnv)) : TE := fun σ H Q => ∃ fm F ρ d ρ', OK K fm F ρ σ H ∧ g ρ = .ok (d, ρ') ∧ ∀ v F' H', OK K fm F' ρ' σ H' → Ex F F' → Rep K F' v d → Q v H'
def OpdOk (K : PySem.W.Frag) (F : Hp) (σ : L2.St) (v : V) : Opd → Prop
  | .val d => Rep K F v d
  | .slot i => σ[i]? = some (some v)
def tAr (K : PySem.W.Frag) (g : PEnv → Out (Opd × PEnv)) : TE := fun σ H Q => ∃ fm F ρ o ρ', OK K fm F ρ σ H ∧ g ρ = .ok (o, ρ') ∧
  ∀ v F' H', OK K fm F' ρ' σ H' → Ex F F' → OpdOk K F' σ v o → Q v H'
inductive OpdsOk (K : PySem.W.Frag) (F : Hp) (σ : L2.St) : List V → List Opd → Prop
  | nil : OpdsOk K F σ [] []
  | cons {v : V} {vs : List V} {o : Opd} {os : List Opd} : OpdOk K F σ v o → OpdsOk K F σ vs os → OpdsOk K F σ (v :: vs) (o :: os)
def tArs (K : PySem.W.Frag) (g : PEnv → Out (List Opd × PEnv)) : TA := fun σ H Q => ∃ fm F ρ os ρ', OK K fm F ρ σ H ∧ g ρ = .ok (os, ρ') ∧
  ∀ vs F' H', OK K fm F' ρ' σ H' → Ex F F' → OpdsOk K F' σ vs os → Q vs H'
def tEvs (K : PySem.W.Frag) (g : PEnv → Out (List D × PEnv)) : TA := fun σ H Q => ∃ fm F ρ ds ρ', OK K fm F ρ σ H ∧ g ρ = .ok (ds, ρ') ∧ ∀ vs F' H', OK K fm F' ρ' σ H' → Ex F F' → RepAll K F' vs ds → Q vs H'
def tEvT (K : PySem.W.Frag) (g : PEnv → Out (Bool × PEnv)) : TT := fun σ H Q => ∃ fm F ρ b ρ', OK K fm F ρ σ H ∧ g ρ = .ok (b, ρ') ∧ ∀ F' H', OK K fm F' ρ' σ H' → Ex F F' → Q b H'
section
variable {K : PySem.W.Frag} {F F' H : Hp} {σ : L2.St}
theorem OpdOk.mono {v : V} {o : Opd} (e : Ex F F') (h : OpdOk K F σ v o) : OpdOk K F' σ v o := by
  cases o with
  | val d => exact Rep.mono e h
  | slot i => exact h
theorem OpdsOk.mono (e : Ex F F') : ∀ {vs : List V} {os : List Opd}, OpdsOk K F σ vs os → OpdsOk K F' σ vs os
  | _, _, .nil => .nil
  | _, _, .cons h r => .cons (h.mono e) (r.mono e)
theorem OpdOk.rd {fm : Fm} {ρ : PEnv} (k : OK K fm F ρ σ H) {v : V} {o : Opd} {d : D} (h : OpdOk K F σ v o) (e : rdO ρ o = some d) : RepO K F H v d := by
  cases o with
  | val d' => cases e; exact .inl h
  | slot i =>
    unfold rdO at e
    simp only at e
    cases c : getS ρ i with
    | none => rw [c] at e; cases e
    | some s =>
      rw [c] at e; cases e
      obtain ⟨w, h1, h2⟩ := k.slot i s c
      have h' : σ[i]? = some (some v) := h
      rw [h'] at h1; cases h1
      cases s with
      | dat d => exact .inl h2
      | own xs =>
        obtain ⟨p, vs, rfl, b1, b2, b3, b4⟩ := h2
        exact .inr ⟨p, vs, xs, rfl, rfl, b3, b4⟩
theorem OpdsOk.rd {fm : Fm} {ρ : PEnv} (k : OK K fm F ρ σ H) : ∀ {vs : List V} {os : List Opd} {ds : List D}, OpdsOk K F σ vs os → rdAll ρ os = some ds → RepOs K F H vs ds
  | _, _, _, .nil, e => by cases e; exact .nil
  | _, _, ds, .cons (o := o) (os := os) h r, e => by
    unfold rdAll at e
    cases c1 : rdO ρ o with
    | none => rw [c1] at e; simp at e
    | some d =>
      cases c2 : rdAll ρ os with
      | none => rw [c1, c2] at e; simp at e
      | some es =>
        rw [c1, c2] at e; cases e
        exact .cons (h.rd k c1) (r.rd k c2)
end
section
variable {X : Cx} {e : Expr} {es : List Expr} {s : Stmt} {ss : List Stmt}
theorem _root_.L2.PE.imp {t t' : TE} (h : PE X e t) (q : ∀ σ H Q, t' σ H Q → t σ H Q) : PE X e t' := ⟨fun pins s σ H Q I w => h.run pins s σ H Q I (q σ H Q w)⟩
theorem _root_.L2.PT.imp {t t' : TT} (h : PT X e t) (q : ∀ σ H Q, t' σ H Q → t σ H Q) : PT X e t' := ⟨fun pins s σ H Q I w => h.run pins s σ H Q I (q σ H Q w)⟩
theorem _root_.L2.PA.imp {t t' : TA} (h : PA X es t) (q : ∀ σ H Q, t' σ H Q → t σ H Q) : PA X es t' := ⟨fun pos pins s σ H Q I w => h.run pos pins s σ H Q I (q σ H Q w)⟩
theorem _root_.L2.PS.imp {t t' : TS} (h : PS X s t) (q : ∀ D σ H, t' D σ H → t D σ H) : PS X s t' := ⟨fun pins s σ H D I w => h.run pins s σ H D I (q D σ H w)⟩
theorem _root_.L2.PSs.imp {t t' : TS} (h : PSs X ss t) (q : ∀ D σ H, t' D σ H → t D σ H) : PSs X ss t' := ⟨fun pins s σ H D I w => h.run pins s σ H D I (q D σ H w)⟩
end
end Px
set_option Elab.async false
set_option linter.all false
set_option maxRecDepth 100000
set_option maxHeartbeats 2000000
namespace Px
open PySem PySem.Spec PyProof.Rows L2

/-! ### a def's promise -/
def ArgOk (K : PySem.W.Frag) (F H : Hp) (v : V) : Slot → Prop
  | .dat d => Rep K F v d
  | .own xs => ∃ p vs, v = .ref p ∧ F p = none ∧ H p = some (.lst vs) ∧ RepAll K F vs xs
inductive ArgsOk (K : PySem.W.Frag) (F H : Hp) : List V → List Slot → Prop
  | nil : ArgsOk K F H [] []
  | cons {v : V} {vs : List V} {a : Slot} {as : List Slot} : ArgOk K F H v a → ArgsOk K F H vs as → ArgsOk K F H (v :: vs) (a :: as)
def ownAt (as : List Slot) (vs : List V) (p : Addr) : Prop := ∃ (j : Nat) (xs : List D), as[j]? = some (Slot.own xs) ∧ vs[j]? = some (V.ref p)
structure CallPost (K : PySem.W.Frag) (F H : Hp) (vs : List V) (as : List Slot) (r : Slot) (outs : PEnv) (v : V) (F' H' : Hp) : Prop where
  exF : Ex F F'
  exH : Ex F' H'
  kept : ∀ a o, H a = some o → ¬ ownAt as vs a → H' a = some o ∧ F' a = F a
  outs : ∀ (j : Nat) (xs ys : List D), as[j]? = some (Slot.own xs) → getS outs j = some (.own ys) → ∃ p ws, vs[j]? = some (V.ref p) ∧ F' p = none ∧ H' p = some (.lst ws) ∧ RepAll K F' ws ys
  res : match r with
    | .dat d => Rep K F' v d
    | .own ys => ∃ p ws, v = .ref p ∧ H p = none ∧ F' p = none ∧ H' p = some (.lst ws) ∧ RepAll K F' ws ys
def spOf (K : PySem.W.Frag) (g : Gfun) : Sp := fun vs H Q _ => ∃ F as r outs, Ex F H ∧ ArgsOk K F H vs as ∧ (∀ (i j : Nat) (xs ys : List D), i ≠ j → as[i]? = some (Slot.own xs) → as[j]? = some (Slot.own ys) → vs[i]? ≠ vs[j]?) ∧
  g as = .ok (r, outs) ∧ ∀ v F' H', CallPost K F H vs as r outs v F' H' → Q v H'

def bnames : List Str := ["len", "tuple", "list", "sum", "all", "any", "max", "min", "abs", "int", "range", "isinstance", "bool", "str"]
structure WX (X : Cx) (G : Sig) (k : Nat) : Prop where
  calm : X.calm = true
  nd : X.N.Nodup
  room : Room k X.A
  sig : ∀ f g, G f = some g → ∃ a fd ps, X.mg f = some (.ref a) ∧ PySem.W.keepIn X.K (.ref a) = true ∧ Binds X.K fd ps [] ∧ FnOk X.prog X.w X.K X.mg X.base CX0 k a fd ps (spOf X.K g)
  blt : ∀ x ∈ bnames, X.mg x = none
theorem WX.blk {X : Cx} {G : Sig} {k : Nat} (w : WX X G k) (s : Shared) (H : Hp) (scope : Scope) (C : Addr) (cl : List (Str × Addr)) (fp : List Addr) : WX (X.blk s H scope (compEnvC scope cl C X.env) fp) G k :=
  ⟨w.calm, w.nd, w.room, w.sig, w.blt⟩

/-! ### the IR beside the text -/
def visB (sc : Scope) (x : Str) : Bool := match sc.names.lookup x with
  | some .local => true | some .cell => true | some .free => true | _ => false
def locB (sc : Scope) (x : Str) : Bool := match sc.names.lookup x with
  | some .local => true | some .cell => true | _ => false
def globB (sc : Scope) (x : Str) : Bool := decide (sc.names.lookup x = some .globalImplicit) && !(x == ("__debug__" : Str))
def varB (N : List Str) (sc : Scope) (i : Nat) (x : Str) : Bool := decide (N[i]? = some x) && visB sc x && !(x == ("__debug__" : Str)) && !(x == ("__classdict__" : Str))
def notStar : Expr → Bool
  | .Starred _ _ => false
  | _ => true
def notSet : Expr → Bool
  | .Set _ _ _ => false
  | _ => true
def notSlice : Expr → Bool
  | .Slice _ _ _ _ => false
  | _ => true
def conB : D → Const → Bool
  | .non, .none => true
  | .bl b, .bool c => b == c
  | .int i, .int j => decide (i = j)
  | .str x, .str y => decide (x = y)
  | _, _ => false
def ckT1 (N : List Str) (sc : Scope) : Nat → Expr → Bool
  | i, .Name x _ => decide (N[i]? = some x) && locB sc x
  | _, _ => false
def ckTs (N : List Str) (sc : Scope) : List Nat → List Expr → Bool
  | [], [] => true
  | i :: is, e :: es => ckT1 N sc i e && notStar e && ckTs N sc is es
  | _, _ => false
def ckTg (N : List Str) (sc : Scope) : Bool × List Nat → Expr → Bool
  | (false, [i]), e => ckT1 N sc i e
  | (true, is), .Tuple es _ _ => ckTs N sc is es
  | _, _ => false
def ownOf (N : List Str) (vs : List Nat) : List (Str × Nat) := vs.map fun i => (N.getD i "", i)
def boolShape : Expr → Bool
  | .BoolOp _ _ _ => true
  | .UnaryOp .Not _ _ => true
  | .IfExp _ _ _ _ => true
  | .Compare _ _ _ _ => true
  | _ => false
mutual
def ckE : Nat → List Str → Scope → E → Expr → Bool
  | 0, _, _, _, _ => false
  | n + 1, N, sc, .var i, .Name x _ => varB N sc i x
  | n + 1, N, sc, .con d, .Constant c _ _ => conB d c
  | n + 1, N, sc, .prim p as, e => ckP n N sc p as e
  | n + 1, N, sc, .dsp true es, .Tuple xs _ _ => ckEs n N sc es xs
  | n + 1, N, sc, .dsp false es, .List xs _ => ckEs n N sc es xs
  | n + 1, N, sc, .bop true es, .BoolOp .And xs _ => ckEs n N sc es xs
  | n + 1, N, sc, .bop false es, .BoolOp .Or xs _ => ckEs n N sc es xs
  | n + 1, N, sc, .not a, .UnaryOp .Not x _ => ckE n N sc a x
  | n + 1, N, sc, .ite c a b, .IfExp x y z _ => ckT n N sc c x && ckE n N sc a y && ckE n N sc b z
  | n + 1, N, sc, .call f as, .Call (.Name x _) es [] _ => decide (x = f) && globB sc x && ckAs n N sc as es
  | n + 1, N, sc, .comp vs tg ik ies conds elt, .ListComp eltx [⟨tgx, iterx, ifsx, 0⟩] scope _ =>
    blkC N sc scope (ownOf N vs) && ckTg N scope tg tgx && (tg.2.all fun i => vs.contains i) && ckI n N sc ik ies iterx && decide (conds.length ≤ 1) && ckC n N (relS scope sc) conds ifsx && ckE n N (relS scope sc) elt eltx
  | n + 1, N, sc, .isi a ty, .Call (.Name x _) [y, .Name t _] [] _ => decide (x = "isinstance") && globB sc x && globB sc t && decide (t = Str.ofString ty.nm) && notStar y && ckA n N sc a y
  | _, _, _, _, _ => false
def ckP : Nat → List Str → Scope → P → List Ar → Expr → Bool
  | 0, _, _, _, _, _ => false
  | n + 1, N, sc, .bin op, [a, b], .BinOp x op' y _ => decide (op = op') && ckA n N sc a x && ckA n N sc b y
  | n + 1, N, sc, .neg, [a], .UnaryOp .USub x _ => ckA n N sc a x
  | n + 1, N, sc, .cmp op, [a, b], .Compare x [op'] [y] _ => decide (op = op') && notSet y && ckA n N sc a x && ckA n N sc b y
  | n + 1, N, sc, .ix, [a, b], .Subscript x y _ => notSlice y && ckA n N sc a x && ckA n N sc b y
  | n + 1, N, sc, .sl false false, [a], .Subscript x (.Slice none none none _) _ => ckA n N sc a x
  | n + 1, N, sc, .sl true false, [a, b], .Subscript x (.Slice (some l) none none _) _ => ckA n N sc a x && ckA n N sc b l
  | n + 1, N, sc, .sl false true, [a, b], .Subscript x (.Slice none (some u) none _) _ => ckA n N sc a x && ckA n N sc b u
  | n + 1, N, sc, .sl true true, [a, .ex b, c], .Subscript x (.Slice (some l) (some u) none _) _ => ckA n N sc a x && ckA n N sc (.ex b) l && ckA n N sc c u
  | n + 1, N, sc, .bi f, as, .Call (.Name x _) (e :: es) [] _ => decide (x = Str.ofString f.nm) && globB sc x && ckAs n N sc as (e :: es)
  | _, _, _, _, _, _ => false
def ckT : Nat → List Str → Scope → T → Expr → Bool
  | 0, _, _, _, _ => false
  | n + 1, N, sc, .bop true ts, .BoolOp .And xs _ => ckC n N sc ts xs
  | n + 1, N, sc, .bop false ts, .BoolOp .Or xs _ => ckC n N sc ts xs
  | n + 1, N, sc, .not a, .UnaryOp .Not x _ => ckT n N sc a x
  | n + 1, N, sc, .val (.ex (.prim (.cmp op) [a, b])), .Compare x [op'] [y] _ => decide (op = op') && notSet y && ckA n N sc a x && ckA n N sc b y
  | n + 1, N, sc, .val a, e => !(boolShape e) && ckA n N sc a e
  | _, _, _, _, _ => false
def ckA : Nat → List Str → Scope → Ar → Expr → Bool
  | 0, _, _, _, _ => false
  | n + 1, N, sc, .slot i, .Name x _ => varB N sc i x
  | n + 1, N, sc, .ex e, x => ckE n N sc e x
  | _, _, _, _, _ => false
def ckAs : Nat → List Str → Scope → List Ar → List Expr → Bool
  | 0, _, _, _, _ => false
  | n + 1, N, sc, [], [] => true
  | n + 1, N, sc, a :: as, e :: es => ckA n N sc a e && notStar e && ckAs n N sc as es
  | _, _, _, _, _ => false
def ckEs : Nat → List Str → Scope → List E → List Expr → Bool
  | 0, _, _, _, _ => false
  | n + 1, N, sc, [], [] => true
  | n + 1, N, sc, a :: as, e :: es => ckE n N sc a e && notStar e && ckEs n N sc as es
  | _, _, _, _, _ => false
def ckC : Nat → List Str → Scope → List T → List Expr → Bool
  | 0, _, _, _, _ => false
  | n + 1, N, sc, [], [] => true
  | n + 1, N, sc, t :: ts, e :: es => ckT n N sc t e && ckC n N sc ts es
  | _, _, _, _, _ => false
/-- what is walked -/
def ckI : Nat → List Str → Scope → IK → List E → Expr → Bool
  | 0, _, _, _, _, _ => false
  | n + 1, N, sc, .rng, es, .Call (.Name x _) xs [] _ => decide (x = "range") && globB sc x && decide (xs.length = 1 ∨ xs.length = 2) && ckEs n N sc es xs
  | n + 1, N, sc, .seq, [a], e => notSet e && ckE n N sc a e
  | n + 1, N, sc, .brw i, [], .Name x _ => varB N sc i x
  | _, _, _, _, _, _ => false
end

theorem varB_ok {X : Cx} {i : Nat} {x : Str} {pos : Pos} (h : varB X.N X.env.scope i x = true) : PE X (.Name x pos) (tVar i) := by
  unfold varB at h
  simp only [Bool.and_eq_true, decide_eq_true_eq, Bool.not_eq_true'] at h
  obtain ⟨⟨⟨h1, h2⟩, h3⟩, h4⟩ := h
  refine pe_var h1 ?_ h3 h4
  unfold visB at h2
  unfold Vis
  split at h2
  · exact .inl (by assumption)
  · exact .inr (.inl (by assumption))
  · exact .inr (.inr (by assumption))
  · cases h2
theorem globB_ok {X : Cx} {x : Str} (h : globB X.env.scope x = true) : Gl X x ∧ (x == ("__debug__" : Str)) = false := by
  unfold globB at h
  simp only [Bool.and_eq_true, decide_eq_true_eq, Bool.not_eq_true'] at h
  exact h
theorem star_cons {e : Expr} {es : List Expr} {env : Env} (h : notStar e = true) : starEach (e :: es) env = (false, eval e env) :: starEach es env := by
  cases e <;> first | rfl | (simp [notStar] at h)
theorem notSet_in {op : CmpOp} {e : Expr} (h : notSet e = true) : behindInMarks op e = false := by
  cases e <;> first | rfl | (simp [notSet] at h)
theorem notSet_fold {e : Expr} {env : Env} (h : notSet e = true) : ∀ x, foldedSetIterable e env x = pure x := by
  intro x
  cases e <;> first | rfl | (simp [notSet] at h)
theorem notSlice_ix {e : Expr} (h : notSlice e = true) : PlainIx e := by
  intro o i
  cases e <;> first | rfl | (simp [notSlice] at h)
section
variable {X : Cx} {G : Sig} {k : Nat}
theorem conB_ok {d : D} {c : Const} {j : Nat} {pos : Pos} (h : conB d c = true) : PE X (.Constant c j pos) (tEv X.K (fun ρ => .ok (d, ρ))) := by
  unfold conB at h
  split at h
  · exact pe_non.imp fun σ H Q ⟨fm, F, ρ, d, ρ', o, e, q⟩ => by cases e; exact q _ F H o (Ex.refl F) .non
  · have h' := eq_of_beq h
    subst h'
    exact pe_bl.imp fun σ H Q ⟨fm, F, ρ, d, ρ', o, e, q⟩ => by cases e; exact q _ F H o (Ex.refl F) (.bl _)
  · have h' := of_decide_eq_true h
    subst h'
    exact pe_int.imp fun σ H Q ⟨fm, F, ρ, d, ρ', o, e, q⟩ => by cases e; exact q _ F H o (Ex.refl F) (.int _)
  · have h' := of_decide_eq_true h
    subst h'
    exact pe_str.imp fun σ H Q ⟨fm, F, ρ, d, ρ', o, e, q⟩ => by cases e; exact q _ F H o (Ex.refl F) (.str _)
  · cases h
/-- a name as an operand -/
theorem slot_ok {i : Nat} {x : Str} {pos : Pos} (h : varB X.N X.env.scope i x = true) : PE X (.Name x pos) (tAr X.K (opnd G (.slot i))) :=
  (varB_ok h).imp fun σ H Q ⟨fm, F, ρ, o, ρ', k, e, q⟩ => by
    unfold opnd at e
    cases c : getS ρ i with
    | none => rw [c] at e; cases e
    | some s =>
      rw [c] at e; cases e
      obtain ⟨v, h1, _⟩ := k.slot i s c
      exact ⟨v, h1, q v F H k (Ex.refl F) h1⟩
/-- a name as a value: a list of our own stands still from now on -/
theorem var_ok {i : Nat} {x : Str} {pos : Pos} (h : varB X.N X.env.scope i x = true) : PE X (.Name x pos) (tEv X.K (ev G (.var i))) :=
  (varB_ok h).imp fun σ H Q ⟨fm, F, ρ, d, ρ', k, e, q⟩ => by
    unfold ev at e
    cases c : getS ρ i with
    | none => rw [c] at e; cases e
    | some s =>
      rw [c] at e
      cases s with
      | dat d =>
        cases e
        obtain ⟨v, h1, h2⟩ := k.slot i _ c
        exact ⟨v, h1, q v F H k (Ex.refl F) h2⟩
      | own xs =>
        cases e
        obtain ⟨v, h1, m⟩ := k.takeO c
        obtain ⟨p, vs, rfl, b1, b2, b3, b4, b5⟩ := m
        obtain ⟨o1, e1, r1⟩ := (k.unset i).freeze b1 b2 b3 b4 b5
        refine ⟨_, h1, q _ _ H ?_ e1 r1⟩
        have hσ : σ.set i (some (V.ref p)) = σ := by
          obtain ⟨hlt, he⟩ := List.getElem?_eq_some_iff.mp h1
          rw [← he]; exact List.set_getElem_self hlt
        have o2 := o1.setD (i := i) r1
        rw [hσ] at o2
        rwa [List.set_set] at o2
end
end Px
set_option Elab.async false
set_option linter.all false
set_option maxRecDepth 100000
set_option maxHeartbeats 2000000
namespace Px
open PySem PySem.Spec PyProof.Rows L2
theorem Out.bind_inv {α β : Type} {x : Out α} {f : α → Out β} {b : β} (h : x.bind f = .ok b) : ∃ a, x = .ok a ∧ f a = .ok b := Out.bind_ok h
section
variable {X : Cx} {G : Sig} {k : Nat} {x y z : Expr} {a b c : Ar} {pos : Pos}
theorem pres_of {K : PySem.W.Frag} {fm : Fm} {F H : Hp} {ρ : PEnv} {σ : L2.St} {d : D} {Q : VK} {fr : Bool} {F0 : Hp} (o : OK K fm F ρ σ H) (e : Ex F0 F) (q : ∀ v F' H', OK K fm F' ρ σ H' → Ex F0 F' → Rep K F' v d → Q v H') : PRes K F H fr d Q where
  dat := fun _ v r => q v F H o e r
  lst := fun p vs xs hp hd r => by
    subst hd
    obtain ⟨o1, e1⟩ := o.frozen (x := .lst vs) hp
    exact q _ _ _ o1 (e.trans e1) (.lst (SqL.of upd_same) (r.mono e1))
  tup := fun p vs xs hp hd r => by
    subst hd
    obtain ⟨o1, e1⟩ := o.frozen (x := .tup vs) hp
    exact q _ _ _ o1 (e.trans e1) (.tup (SqT.of upd_same) (r.mono e1))
/-- a primitive's reading -/
def tPr (fr : Bool) (K : PySem.W.Frag) (g : PEnv → Out (D × PEnv)) : TE := fun σ H Q => ∃ fm F ρ d ρ', OK K fm F ρ σ H ∧ g ρ = .ok (d, ρ') ∧ ∀ F' H', OK K fm F' ρ' σ H' → Ex F F' → PRes K F' H' fr d Q
theorem pr_ev {fr : Bool} {g : PEnv → Out (D × PEnv)} (h : PE X x (tPr fr X.K g)) : PE X x (tEv X.K g) := h.imp fun σ H Q ⟨fm, F, ρ, d, ρ', o, e, q⟩ => ⟨fm, F, ρ, d, ρ', o, e, fun F' H' o' x' => pres_of o' x' q⟩
/-- what an operator by values asks -/
def R2Ok (fr : Bool) (K : PySem.W.Frag) (p : P) (r : R2) : Prop := ∀ F H x y a b d Q, Ex F H → RepO K F H x a → RepO K F H y b → primF p [a, b] = some d → PRes K F H fr d Q → r x y H Q
theorem two_ok {fr : Bool} {p : P} {r : R2} (hr : R2Ok fr X.K p r) {σ : L2.St} {H : Hp} {Q : VK} (h : tPr fr X.K (ev G (.prim p [a, b])) σ H Q) : tOp r (tAr X.K (opnd G a)) (tAr X.K (opnd G b)) σ H Q := by
  obtain ⟨fm, F, ρ, d, ρ', o, e, q⟩ := h
  unfold ev at e
  obtain ⟨⟨os, ρ2⟩, e1, e2⟩ := Out.bind_inv e
  obtain ⟨ds, e3, e4⟩ := Out.bind_inv e2
  obtain ⟨d', e5, e6⟩ := Out.bind_inv e4
  cases e6
  unfold opnds at e1
  obtain ⟨⟨oa, ρ3⟩, f1, f2⟩ := Out.bind_inv e1
  obtain ⟨⟨r1, ρ4⟩, f3, f4⟩ := Out.bind_inv f2
  cases f4
  unfold opnds at f3
  obtain ⟨⟨ob, ρ5⟩, g1, g2⟩ := Out.bind_inv f3
  obtain ⟨⟨r2, ρ6⟩, g3, g4⟩ := Out.bind_inv g2
  cases g4
  unfold opnds at g3
  cases g3
  refine ⟨fm, F, ρ, oa, ρ3, o, f1, fun v F1 H1 o1 x1 q1 => ⟨fm, F1, ρ3, ob, ρ5, o1, g1, fun w F2 H2 o2 x2 q2 => ?_⟩⟩
  have R := OpdsOk.rd o2 (.cons (q1.mono x2) (.cons q2 .nil)) (Out.of_ok e3)
  cases R with
  | cons ra R =>
    cases R with
    | cons rb R =>
      cases R
      exact hr F2 H2 v w _ _ d Q o2.exF ra rb (Out.of_ok e5) (q F2 H2 o2 (x1.trans x2))
theorem one_ok {fr : Bool} {p : P} {r : V → Hp → VK → Prop} (hr : ∀ F H x a d Q, Ex F H → RepO X.K F H x a → primF p [a] = some d → PRes X.K F H fr d Q → r x H Q) {σ : L2.St} {H : Hp} {Q : VK} (h : tPr fr X.K (ev G (.prim p [a])) σ H Q) : tUn r (tAr X.K (opnd G a)) σ H Q := by
  obtain ⟨fm, F, ρ, d, ρ', o, e, q⟩ := h
  unfold ev at e
  obtain ⟨⟨os, ρ2⟩, e1, e2⟩ := Out.bind_inv e
  obtain ⟨ds, e3, e4⟩ := Out.bind_inv e2
  obtain ⟨d', e5, e6⟩ := Out.bind_inv e4
  cases e6
  unfold opnds at e1
  obtain ⟨⟨oa, ρ3⟩, f1, f2⟩ := Out.bind_inv e1
  obtain ⟨⟨r1, ρ4⟩, f3, f4⟩ := Out.bind_inv f2
  cases f4
  unfold opnds at f3
  cases f3
  refine ⟨fm, F, ρ, oa, ρ3, o, f1, fun v F1 H1 o1 x1 q1 => ?_⟩
  have R := OpdsOk.rd o1 (.cons q1 .nil) (Out.of_ok e3)
  cases R with
  | cons ra R =>
    cases R
    exact hr F1 H1 v _ d Q o1.exF ra (Out.of_ok e5) (q F1 H1 o1 x1)
theorem r_bin (op : Operator) : R2Ok true X.K (.bin op) (rBin X.K op) := fun F H x y a b d Q e ra rb h q => ⟨F, a, b, d, e, ra, rb, h, q⟩
theorem r_cmp (op : CmpOp) : R2Ok false X.K (.cmp op) (rCmp X.K op) := fun F H x y a b d Q e ra rb h q => by
  have h' : (cmpF op a b).map D.bl = some d := h
  simp only [Option.map_eq_some_iff] at h'
  obtain ⟨c, h1, rfl⟩ := h'
  exact ⟨F, a, b, c, e, ra, rb, h1, q.bl⟩
theorem r_ix : R2Ok false X.K .ix (rIxD X.K) := fun F H x y a b d Q e ra rb h q => ⟨F, a, b, d, e, ra, rb, h, fun v r => q.dat (fun z => by cases z) v r⟩
theorem bin_ok {op : Operator} (ha : PE X x (tAr X.K (opnd G a))) (hb : PE X y (tAr X.K (opnd G b))) : PE X (.BinOp x op y pos) (tPr true X.K (ev G (.prim (.bin op) [a, b]))) :=
  (pe_op (op_bin op) ha hb).imp fun σ H Q h => two_ok (r_bin op) h
theorem neg_ok (ha : PE X x (tAr X.K (opnd G a))) : PE X (.UnaryOp .USub x pos) (tPr false X.K (ev G (.prim .neg [a]))) :=
  (pe_un op_negD ha).imp fun σ H Q h => one_ok (fun F H x a d Q e r p q => by
    cases a <;> simp only [primF, Option.some.injEq, reduceCtorEq] at p
    subst p
    exact ⟨F, _, e, r, q.int⟩) h
theorem cmp_ok {op : CmpOp} (hu : X.A.units + 65 < cLine) (hn : notSet y = true) (ha : PE X x (tAr X.K (opnd G a))) (hb : PE X y (tAr X.K (opnd G b))) : PE X (.Compare x [op] [y] pos) (tPr false X.K (ev G (.prim (.cmp op) [a, b]))) :=
  (pe_cmpR (op_cmpD hu op) ha hb (notSet_in hn)).imp fun σ H Q h => two_ok (r_cmp op) h
theorem ix_ok (hn : notSlice y = true) (ha : PE X x (tAr X.K (opnd G a))) (hb : PE X y (tAr X.K (opnd G b))) : PE X (.Subscript x y pos) (tPr false X.K (ev G (.prim .ix [a, b]))) :=
  (pe_ix ix_D ha hb (notSlice_ix hn)).imp fun σ H Q h => two_ok r_ix h
/-- a comparison as a test -/
theorem cmpT_ok {op : CmpOp} (hu : X.A.units + 65 < cLine) (hn : notSet y = true) (ha : PE X x (tAr X.K (opnd G a))) (hb : PE X y (tAr X.K (opnd G b))) : PT X (.Compare x [op] [y] pos) (tEvT X.K (evT G (.val (.ex (.prim (.cmp op) [a, b]))))) :=
  (pt_cmpR (op_cmpD hu op) ha hb (notSet_in hn)).imp fun σ H Q h => by
    obtain ⟨fm, F, ρ, t, ρ', o, e, q⟩ := h
    unfold evT at e
    obtain ⟨⟨od, ρ2⟩, e1, e2⟩ := Out.bind_inv e
    unfold opnd at e1
    obtain ⟨⟨d, ρ3⟩, e3, e4⟩ := Out.bind_inv e1
    cases e4
    obtain ⟨d', e5, e6⟩ := Out.bind_inv e2
    have e5' := Out.of_ok e5
    cases e5'
    obtain ⟨t', e7, e8⟩ := Out.bind_inv e6
    cases e8
    refine two_ok (r_cmp op) (G := G) ⟨fm, F, ρ, d, _, o, e3, fun F' H' o' x' => pres_of o' x' fun v F' H' o' x' r => ?_⟩
    have hb : ∃ c, d = .bl c := by
      unfold ev at e3
      obtain ⟨⟨os, ρ4⟩, f1, f2⟩ := Out.bind_inv e3
      obtain ⟨ds, f3, f4⟩ := Out.bind_inv f2
      obtain ⟨d', f5, f6⟩ := Out.bind_inv f4
      cases f6
      have f5' := Out.of_ok f5
      match ds, f5' with
      | [a1, a2], f5' =>
        have f6 : (cmpF op a1 a2).map D.bl = some _ := f5'
        simp only [Option.map_eq_some_iff] at f6
        obtain ⟨c', _, hc'⟩ := f6
        exact ⟨c', hc'.symm⟩
    obtain ⟨c, rfl⟩ := hb
    cases r
    have e7' := Out.of_ok e7
    cases e7'
    exact ⟨_, rfl, q F' H' o' x'⟩
/-- a value as a test -/
theorem truD_ok {K : PySem.W.Frag} {F H : Hp} {v : V} {d : D} {t : Bool} (e : Ex F H) (r : RepO K F H v d) (h : truD d = some t) : TruV K v H t := by
  cases d with
  | non => obtain rfl := r.non; cases h; rfl
  | bl b => obtain rfl := r.bl; cases h; rfl
  | int i => obtain rfl := r.int; cases h; rfl
  | str s => cases h
  | tup xs =>
    obtain ⟨a, vs, rfl, h1, h2⟩ := r.tup e
    cases h
    refine .inr (.inl ⟨vs, h1, ?_⟩)
    cases h2 <;> rfl
  | lst xs =>
    obtain ⟨a, vs, rfl, h1, h2⟩ := r.lst e
    cases h
    refine .inl ⟨vs, h1, ?_⟩
    cases h2 <;> rfl
theorem plain_true {e : Expr} {env : Env} (h : boolShape e = false) : ∀ whole, isTrue e env whole = (do let v ← whole; standAt e.pos; holding [v] (truthy v)) := by
  intro whole
  cases e <;> first
    | rfl
    | (simp [boolShape] at h; done)
    | (rename_i op _ _; cases op <;> first | rfl | (simp [boolShape] at h; done))
theorem val_ok (hs : boolShape x = false) (ha : PE X x (tAr X.K (opnd G a))) : PT X x (tEvT X.K (evT G (.val a))) :=
  (pt_truth ha (plain_true hs)).imp fun σ H Q h => by
    obtain ⟨fm, F, ρ, t, ρ', o, e, q⟩ := h
    unfold evT at e
    obtain ⟨⟨od, ρ2⟩, e1, e2⟩ := Out.bind_inv e
    obtain ⟨d, e5, e6⟩ := Out.bind_inv e2
    obtain ⟨t', e7, e8⟩ := Out.bind_inv e6
    cases e8
    exact ⟨fm, F, ρ, od, ρ2, o, e1, fun v F1 H1 o1 x1 q1 => ⟨t, truD_ok o1.exF (q1.rd o1 (Out.of_ok e5)) (Out.of_ok e7), q F1 H1 o1 x1⟩⟩
/-- slices -/
theorem int_of_rd {K : PySem.W.Frag} {F H : Hp} {v : V} {i : Int} (r : RepO K F H v (.int i)) : v = .int i := r.int
theorem sl0_ok {p2 : Pos} (ha : PE X x (tAr X.K (opnd G a))) : PE X (.Subscript x (.Slice none none none p2) pos) (tPr true X.K (ev G (.prim (.sl false false) [a]))) :=
  (pe_slice sl_D ha po_none po_none).imp fun σ H Q h =>
    one_ok (X := X) (G := G) (a := a) (p := .sl false false) (r := fun v H Q => rSlD X.K v none none H Q) (fun F H x a d Q e r p q => ⟨F, a, d, e, r, p, q⟩) h
theorem sl1_ok {p2 : Pos} (ha : PE X x (tAr X.K (opnd G a))) (hb : PE X y (tAr X.K (opnd G b))) : PE X (.Subscript x (.Slice (some y) none none p2) pos) (tPr true X.K (ev G (.prim (.sl true false) [a, b]))) :=
  (pe_slice sl_D ha (po_some hb) po_none).imp fun σ H Q h =>
    two_ok (X := X) (G := G) (p := .sl true false) (r := fun v u H Q => ∃ i, u = .int i ∧ rSlD X.K v (some i) none H Q) (fun F H x y a b d Q e ra rb p q => by
      cases b <;> simp only [primF, reduceCtorEq] at p
      exact ⟨_, rb.int, F, a, d, e, ra, p, q⟩) h
theorem sl2_ok {p2 : Pos} (ha : PE X x (tAr X.K (opnd G a))) (hb : PE X y (tAr X.K (opnd G b))) : PE X (.Subscript x (.Slice none (some y) none p2) pos) (tPr true X.K (ev G (.prim (.sl false true) [a, b]))) :=
  (pe_slice sl_D ha po_none (po_some hb)).imp fun σ H Q h =>
    two_ok (X := X) (G := G) (p := .sl false true) (r := fun v u H Q => ∃ i, u = .int i ∧ rSlD X.K v none (some i) H Q) (fun F H x y a b d Q e ra rb p q => by
      cases b <;> simp only [primF, reduceCtorEq] at p
      exact ⟨_, rb.int, F, a, d, e, ra, p, q⟩) h
theorem rdAll3 {ρ : PEnv} {o1 o2 o3 : Opd} {ds : List D} (h : rdAll ρ [o1, o2, o3] = some ds) : ∃ d1 d2 d3, ds = [d1, d2, d3] ∧ rdO ρ o1 = some d1 ∧ rdO ρ o2 = some d2 ∧ rdO ρ o3 = some d3 := by
  unfold rdAll at h
  cases c1 : rdO ρ o1 with
  | none => rw [c1] at h; simp at h
  | some d1 =>
    unfold rdAll at h
    cases c2 : rdO ρ o2 with
    | none => rw [c1, c2] at h; simp at h
    | some d2 =>
      unfold rdAll at h
      cases c3 : rdO ρ o3 with
      | none => rw [c1, c2, c3] at h; simp at h
      | some d3 =>
        rw [c1, c2, c3] at h
        unfold rdAll at h
        simp at h
        exact ⟨d1, d2, d3, h.symm, rfl, rfl, rfl⟩
theorem sl3_ok {p2 : Pos} {b' : E} (ha : PE X x (tAr X.K (opnd G a))) (hb : PE X y (tAr X.K (opnd G (.ex b')))) (hc : PE X z (tAr X.K (opnd G c))) : PE X (.Subscript x (.Slice (some y) (some z) none p2) pos) (tPr true X.K (ev G (.prim (.sl true true) [a, .ex b', c]))) :=
  (pe_slice sl_D ha (po_some hb) (po_some hc)).imp fun σ H Q h => by
    obtain ⟨fm, F, ρ, d, ρ', o, e, q⟩ := h
    unfold ev at e
    obtain ⟨⟨os, ρ2⟩, e1, e2⟩ := Out.bind_inv e
    obtain ⟨ds, e3, e4⟩ := Out.bind_inv e2
    obtain ⟨d', e5, e6⟩ := Out.bind_inv e4
    cases e6
    unfold opnds at e1
    obtain ⟨⟨oa, ρ3⟩, f1, f2⟩ := Out.bind_inv e1
    obtain ⟨⟨r1, ρ4⟩, f3, f4⟩ := Out.bind_inv f2
    cases f4
    unfold opnds at f3
    obtain ⟨⟨ob, ρ5⟩, g1, g2⟩ := Out.bind_inv f3
    obtain ⟨⟨r2, ρ6⟩, g3, g4⟩ := Out.bind_inv g2
    cases g4
    unfold opnds at g3
    obtain ⟨⟨oc, ρ7⟩, h1, h2⟩ := Out.bind_inv g3
    obtain ⟨⟨r3, ρ8⟩, h3, h4⟩ := Out.bind_inv h2
    cases h4
    unfold opnds at h3
    cases h3
    obtain ⟨d1, d2, d3, rfl, t1, t2, t3⟩ := rdAll3 (Out.of_ok e3)
    have e5' := Out.of_ok e5
    have g1' := g1
    unfold opnd at g1'
    obtain ⟨⟨db, ρb⟩, u1, u2⟩ := Out.bind_inv g1'
    cases u2
    cases t2
    cases db <;> simp only [primF, reduceCtorEq] at e5'
    cases d3 <;> simp only [primF, reduceCtorEq] at e5'
    refine ⟨fm, F, ρ, oa, ρ3, o, f1, fun v F1 H1 o1 x1 q1 => ⟨fm, F1, ρ3, _, _, o1, g1, fun w F2 H2 o2 x2 q2 => ?_⟩⟩
    cases (show Rep X.K F2 w (.int _) from q2)
    refine ⟨_, rfl, fm, F2, _, oc, _, o2, h1, fun w3 F3 H3 o3 x3 q3 => ?_⟩
    obtain rfl := (q3.rd o3 t3).int
    exact ⟨_, rfl, F3, d1, d, o3.exF, ((q1.mono x2).mono x3).rd o3 t1, e5', q F3 H3 o3 ((x1.trans x2).trans x3)⟩
end
end Px
set_option Elab.async false
set_option linter.all false
set_option maxRecDepth 100000
set_option maxHeartbeats 2000000
namespace Px
open PySem PySem.Spec PyProof.Rows L2
section
variable {X : Cx} {G : Sig} {k : Nat} {x y z : Expr} {es : List Expr} {a b c : Ar} {as : List Ar} {irs : List E} {pos : Pos}
/-- argument lists -/
theorem as_nil : PA X [] (tArs X.K (opnds G [])) := pa_nil.imp fun σ H Q h => by
  obtain ⟨fm, F, ρ, os, ρ', o, e, q⟩ := h
  unfold opnds at e
  cases e
  exact q [] F H o (Ex.refl F) .nil
theorem as_cons (hs : notStar x = true) (ha : PE X x (tAr X.K (opnd G a))) (hr : PA X es (tArs X.K (opnds G as))) : PA X (x :: es) (tArs X.K (opnds G (a :: as))) := (pa_cons ha hr (star_cons hs)).imp fun σ H Q h => by
  obtain ⟨fm, F, ρ, os, ρ', o, e, q⟩ := h
  unfold opnds at e
  obtain ⟨⟨oa, ρ1⟩, e1, e2⟩ := Out.bind_inv e
  obtain ⟨⟨rs, ρ2⟩, e3, e4⟩ := Out.bind_inv e2
  cases e4
  exact ⟨fm, F, ρ, oa, ρ1, o, e1, fun v F1 H1 o1 x1 q1 => ⟨fm, F1, ρ1, rs, ρ2, o1, e3, fun vs F2 H2 o2 x2 q2 => q _ F2 H2 o2 (x1.trans x2) (.cons (q1.mono x2) q2)⟩⟩
theorem es_nil : PA X [] (tEvs X.K (evs G [])) := pa_nil.imp fun σ H Q h => by
  obtain ⟨fm, F, ρ, os, ρ', o, e, q⟩ := h
  unfold evs at e
  cases e
  exact q [] F H o (Ex.refl F) .nil
theorem es_cons {i : E} (hs : notStar x = true) (ha : PE X x (tEv X.K (ev G i))) (hr : PA X es (tEvs X.K (evs G irs))) : PA X (x :: es) (tEvs X.K (evs G (i :: irs))) := (pa_cons ha hr (star_cons hs)).imp fun σ H Q h => by
  obtain ⟨fm, F, ρ, os, ρ', o, e, q⟩ := h
  unfold evs at e
  obtain ⟨⟨oa, ρ1⟩, e1, e2⟩ := Out.bind_inv e
  obtain ⟨⟨rs, ρ2⟩, e3, e4⟩ := Out.bind_inv e2
  cases e4
  exact ⟨fm, F, ρ, oa, ρ1, o, e1, fun v F1 H1 o1 x1 q1 => ⟨fm, F1, ρ1, rs, ρ2, o1, e3, fun vs F2 H2 o2 x2 q2 => q _ F2 H2 o2 (x1.trans x2) (.cons (q1.mono x2) q2)⟩⟩
/-- an expression as an operand -/
theorem ex_ok {i : E} (h : PE X x (tEv X.K (ev G i))) : PE X x (tAr X.K (opnd G (.ex i))) := h.imp fun σ H Q h => by
  obtain ⟨fm, F, ρ, os, ρ', o, e, q⟩ := h
  unfold opnd at e
  obtain ⟨⟨d, ρ1⟩, e1, e2⟩ := Out.bind_inv e
  cases e2
  exact ⟨fm, F, ρ, d, ρ1, o, e1, q⟩
/-- built-in functions -/
theorem boot_bi (f : BI) : bootBuiltins (Str.ofString f.nm) = some (biV f) := by
  cases f <;> decide +kernel
theorem nm_ne (f : BI) : Str.ofString f.nm ≠ "__name__" ∧ (Str.ofString f.nm == ("__debug__" : Str)) = false ∧ Str.ofString f.nm ∈ bnames := by
  cases f <;> decide +kernel
theorem noStars_any : ∀ {es : List Expr} {p : Pos} {env : Env}, PA X es (tArs X.K (opnds G as)) → (es.all notStar) = true → (backTo p (starEach es env)).any (·.1) = false
  | [], _, _, _, _ => rfl
  | e :: es, p, env, h, hs => by
    rw [List.all_cons, Bool.and_eq_true] at hs
    rw [star_cons hs.1]
    have : ∀ (es : List Expr), es.all notStar = true → (backTo p (starEach es env)).any (·.1) = false := by
      intro es
      induction es with
      | nil => intro _; rfl
      | cons e es ih =>
        intro hs
        rw [List.all_cons, Bool.and_eq_true] at hs
        rw [star_cons hs.1]
        simpa [backTo] using ih hs.2
    simpa [backTo] using this es hs.2
theorem noStars {p : Pos} {env : Env} : ∀ (es : List Expr), es.all notStar = true → (backTo p (starEach es env)).any (·.1) = false := by
  intro es
  induction es with
  | nil => intro _; rfl
  | cons e es ih =>
    intro hs
    rw [List.all_cons, Bool.and_eq_true] at hs
    rw [star_cons hs.1]
    simpa [backTo] using ih hs.2
theorem bi_ok (w : WX X G k) {f : BI} {p : Pos} (hg : globB X.env.scope (Str.ofString f.nm) = true) (hs : (x :: es).all notStar = true) (ha : PA X (x :: es) (tArs X.K (opnds G as))) :
    PE X (.Call (.Name (Str.ofString f.nm) p) (x :: es) [] pos) (tPr (freshP (.bi f)) X.K (ev G (.prim (.bi f) as))) := by
  have hs' := hs
  rw [List.all_cons, Bool.and_eq_true] at hs'
  have key : PE X (.Call (.Name (Str.ofString f.nm) p) (x :: es) [] pos) (tCB (rBi X.K f) (tArs X.K (opnds G as))) := by
    have hc := call_bi (X := X) w.calm f
    have hb := boot_bi f
    obtain ⟨n1, n2, n3⟩ := nm_ne f
    unfold biV at hc hb
    by_cases ht : f.isTy = true
    · rw [if_pos ht] at hc hb
      exact pe_callTy hc (globB_ok hg).1 (w.blt _ n3) hb ha n1 n2 (star_cons hs'.1) (noStars es hs'.2)
    · rw [if_neg ht] at hc hb
      exact pe_callB hc (globB_ok hg).1 (w.blt _ n3) hb ha n1 n2 (star_cons hs'.1) (noStars es hs'.2)
  refine key.imp fun σ H Q h => ?_
  obtain ⟨fm, F, ρ, d, ρ', o, e, q⟩ := h
  unfold ev at e
  obtain ⟨⟨os, ρ2⟩, e1, e2⟩ := Out.bind_inv e
  obtain ⟨ds, e3, e4⟩ := Out.bind_inv e2
  obtain ⟨d', e5, e6⟩ := Out.bind_inv e4
  cases e6
  refine ⟨fm, F, ρ, os, _, o, e1, fun vs F1 H1 o1 x1 q1 => ?_⟩
  exact ⟨F1, ds, d, o1.exF, q1.rd o1 (Out.of_ok e3), Out.of_ok e5, q F1 H1 o1 x1⟩
/-- a new list of our own -/
def tOwn (K : PySem.W.Frag) (g : PEnv → Out (D × PEnv)) : TE := fun σ H Q => ∃ fm F ρ xs ρ', OK K fm F ρ σ H ∧ g ρ = .ok (.lst xs, ρ') ∧ ∀ v F' H', OK K fm F' ρ' σ H' → Ex F F' → Mine K fm F' ρ' σ H' v xs → Q v H'
theorem OK.mine {K : PySem.W.Frag} {fm : Fm} {F H : Hp} {ρ : PEnv} {σ : L2.St} (o : OK K fm F ρ σ H) {p : Addr} {vs : List V} {xs : List D} (hp : H p = none) (r : RepAll K F vs xs) : Mine K fm F ρ σ (L2.upd H p (.lst vs)) (.ref p) xs :=
  ⟨p, vs, rfl, o.exB.fresh hp, o.exF.fresh hp, upd_same, r, fun i ys e z => by
    obtain ⟨v, h1, q, ws, rfl, _, _, b3, _⟩ := o.slot i _ e
    rw [z] at h1; cases h1
    rw [hp] at b3; cases b3⟩
theorem own_ev_rd {K : PySem.W.Frag} {g : PEnv → Out (D × PEnv)} (hg : ∀ ρ d ρ', g ρ = .ok (d, ρ') → ∃ xs, d = .lst xs) {σ : L2.St} {H : Hp} {Q : VK} (h : tEv K g σ H Q) : tOwn K g σ H Q := by
  obtain ⟨fm, F, ρ, d, ρ', o, e, q⟩ := h
  obtain ⟨xs, rfl⟩ := hg ρ d ρ' e
  refine ⟨fm, F, ρ, xs, ρ', o, e, fun v F' H' o' x' m => ?_⟩
  obtain ⟨p, vs, rfl, b1, b2, b3, b4, b5⟩ := m
  obtain ⟨o3, x3, r3⟩ := o'.freeze b1 b2 b3 b4 b5
  exact q _ _ H' o3 (x'.trans x3) r3
theorem own_ev {g : PEnv → Out (D × PEnv)} (hg : ∀ ρ d ρ', g ρ = .ok (d, ρ') → ∃ xs, d = .lst xs) (h : PE X x (tOwn X.K g)) : PE X x (tEv X.K g) := h.imp fun σ H Q h => own_ev_rd hg h
theorem dsp_lst : ∀ ρ d ρ', ev G (.dsp false irs) ρ = .ok (d, ρ') → ∃ xs, d = .lst xs := fun ρ d ρ' e => by
  unfold ev at e
  obtain ⟨⟨ds, ρ2⟩, e1, e2⟩ := Out.bind_inv e
  have e2 : (if ds.length ≤ lim then Out.ok (if false = true then D.tup ds else D.lst ds, ρ2) else Out.bad) = Out.ok (d, ρ') := e2
  by_cases c : ds.length ≤ lim
  · rw [if_pos c] at e2; cases e2; exact ⟨_, rfl⟩
  · rw [if_neg c] at e2; cases e2
/-- displays -/
theorem dspT_ok {kk : Nat} (ha : PA X es (tEvs X.K (evs G irs))) : PE X (.Tuple es kk pos) (tEv X.K (ev G (.dsp true irs))) := (pe_tup ha).imp fun σ H Q h => by
  obtain ⟨fm, F, ρ, d, ρ', o, e, q⟩ := h
  unfold ev at e
  obtain ⟨⟨ds, ρ2⟩, e1, e2⟩ := Out.bind_inv e
  have e2 : (if ds.length ≤ lim then Out.ok (if true = true then D.tup ds else D.lst ds, ρ2) else Out.bad) = Out.ok (d, ρ') := e2
  by_cases c : ds.length ≤ lim
  · rw [if_pos c] at e2
    cases e2
    refine ⟨fm, F, ρ, ds, _, o, e1, fun vs F1 H1 o1 x1 r1 => ⟨by rw [r1.length, ← lim_eq]; exact c, fun p hp => ?_⟩⟩
    obtain ⟨o2, x2⟩ := o1.frozen (x := .tup vs) hp
    exact q _ _ _ o2 (x1.trans x2) (.tup (SqT.of upd_same) (r1.mono x2))
  · rw [if_neg c] at e2; cases e2
theorem dspL_ok (ha : PA X es (tEvs X.K (evs G irs))) : PE X (.List es pos) (tOwn X.K (ev G (.dsp false irs))) := (pe_lst ha).imp fun σ H Q h => by
  obtain ⟨fm, F, ρ, d, ρ', o, e, q⟩ := h
  unfold ev at e
  obtain ⟨⟨ds, ρ2⟩, e1, e2⟩ := Out.bind_inv e
  have e2 : (if ds.length ≤ lim then Out.ok (if false = true then D.tup ds else D.lst ds, ρ2) else Out.bad) = Out.ok (.lst d, ρ') := e2
  by_cases c : ds.length ≤ lim
  · rw [if_pos c] at e2
    cases e2
    refine ⟨fm, F, ρ, _, _, o, e1, fun vs F1 H1 o1 x1 r1 => ⟨by rw [r1.length, ← lim_eq]; exact c, fun p hp => ?_⟩⟩
    exact q _ _ _ (o1.newH (x := .lst vs) hp) x1 (o1.mine hp r1)
  · rw [if_neg c] at e2; cases e2
/-- not, and, or as values -/
theorem not_ok {i : E} (h : PE X x (tEv X.K (ev G i))) : PE X (.UnaryOp .Not x pos) (tEv X.K (ev G (.not i))) := (pe_not h).imp fun σ H Q h => by
  obtain ⟨fm, F, ρ, d, ρ', o, e, q⟩ := h
  unfold ev at e
  obtain ⟨⟨d1, ρ2⟩, e1, e2⟩ := Out.bind_inv e
  cases d1 <;> try (cases e2; done)
  cases e2
  exact ⟨fm, F, ρ, _, _, o, e1, fun v F1 H1 o1 x1 r1 => by cases r1; exact ⟨_, rfl, q _ F1 H1 o1 x1 (.bl _)⟩⟩
theorem bop_one {c : Bool} {i : E} (h : PE X x (tEv X.K (ev G i))) : PE X (.BoolOp (if c then .And else .Or) [x] pos) (tEv X.K (evB G c [i])) := (pe_one h).imp fun σ H Q h => by
  obtain ⟨fm, F, ρ, d, ρ', o, e, q⟩ := h
  unfold evB at e
  obtain ⟨⟨d1, ρ2⟩, e1, e2⟩ := Out.bind_inv e
  cases e2
  exact ⟨fm, F, ρ, _, _, o, e1, q⟩
theorem bop_cons {c : Bool} {i i2 : E} (h : PE X x (tEv X.K (ev G i))) (hr : PE X (.BoolOp (if c then .And else .Or) (y :: es) pos) (tEv X.K (evB G c (i2 :: irs)))) :
    PE X (.BoolOp (if c then .And else .Or) (x :: y :: es) pos) (tEv X.K (evB G c (i :: i2 :: irs))) := by
  cases c with
  | true =>
    refine (pe_and h hr).imp fun σ H Q h => ?_
    obtain ⟨fm, F, ρ, d, ρ', o, e, q⟩ := h
    unfold evB at e
    obtain ⟨⟨d1, ρ2⟩, e1, e2⟩ := Out.bind_inv e
    cases d1 <;> try (cases e2; done)
    rename_i bb
    refine ⟨fm, F, ρ, _, _, o, e1, fun v F1 H1 o1 x1 r1 => ?_⟩
    cases r1
    refine ⟨bb, rfl, ?_⟩
    cases bb with
    | true => rw [if_pos rfl]; exact ⟨fm, F1, _, d, ρ', o1, e2, fun v F2 H2 o2 x2 r2 => q v F2 H2 o2 (x1.trans x2) r2⟩
    | false => cases e2; rw [if_neg (by decide)]; exact q _ F1 H1 o1 x1 (.bl _)
  | false =>
    refine (pe_or h hr).imp fun σ H Q h => ?_
    obtain ⟨fm, F, ρ, d, ρ', o, e, q⟩ := h
    unfold evB at e
    obtain ⟨⟨d1, ρ2⟩, e1, e2⟩ := Out.bind_inv e
    cases d1 <;> try (cases e2; done)
    rename_i bb
    refine ⟨fm, F, ρ, _, _, o, e1, fun v F1 H1 o1 x1 r1 => ?_⟩
    cases r1
    refine ⟨bb, rfl, ?_⟩
    cases bb with
    | true => cases e2; rw [if_pos rfl]; exact q _ F1 H1 o1 x1 (.bl _)
    | false => rw [if_neg (by decide)]; exact ⟨fm, F1, _, d, ρ', o1, e2, fun v F2 H2 o2 x2 r2 => q v F2 H2 o2 (x1.trans x2) r2⟩
theorem bop_ok {c : Bool} (h : PE X y (tEv X.K (evB G c irs))) : PE X y (tEv X.K (ev G (.bop c irs))) := h.imp fun σ H Q h => by
  obtain ⟨fm, F, ρ, d, ρ', o, e, q⟩ := h
  unfold ev at e
  exact ⟨fm, F, ρ, d, ρ', o, e, q⟩
/-- a if c else b -/
theorem ite_ok {t : T} {i j : E} (hc : PT X x (tEvT X.K (evT G t))) (h1 : PE X y (tEv X.K (ev G i))) (h2 : PE X z (tEv X.K (ev G j))) : PE X (.IfExp x y z pos) (tEv X.K (ev G (.ite t i j))) := (pe_ifExp hc h1 h2).imp fun σ H Q h => by
  obtain ⟨fm, F, ρ, d, ρ', o, e, q⟩ := h
  unfold ev at e
  obtain ⟨⟨bb, ρ2⟩, e1, e2⟩ := Out.bind_inv e
  refine ⟨fm, F, ρ, bb, ρ2, o, e1, fun F1 H1 o1 x1 => ?_⟩
  cases bb with
  | true => rw [if_pos rfl]; exact ⟨fm, F1, ρ2, d, ρ', o1, e2, fun v F2 H2 o2 x2 r2 => q v F2 H2 o2 (x1.trans x2) r2⟩
  | false => rw [if_neg (by decide)]; exact ⟨fm, F1, ρ2, d, ρ', o1, e2, fun v F2 H2 o2 x2 r2 => q v F2 H2 o2 (x1.trans x2) r2⟩
/-- isinstance -/
theorem isi_ty {K : PySem.W.Frag} {F H : Hp} {v : V} {d : D} (e : Ex F H) (r : RepO K F H v d) : ∃ t, TyX K H v (.type t) ∧ ∀ ty : IT, PySem.W.kitOne K (.type t) (.type ty.nm) = some (isiF d ty) := by
  cases d with
  | non => obtain rfl := r.non; exact ⟨_, .base .non, fun ty => by cases ty <;> exact kit_ty (by simp only [isiF]; decide +kernel)⟩
  | bl b => obtain rfl := r.bl; exact ⟨_, .base (.bl b), fun ty => by cases ty <;> exact kit_ty (by simp only [isiF]; decide +kernel)⟩
  | int i => obtain rfl := r.int; exact ⟨_, .base (.int i), fun ty => by cases ty <;> exact kit_ty (by simp only [isiF]; decide +kernel)⟩
  | str s => obtain rfl := r.str; exact ⟨_, .base (.str s), fun ty => by cases ty <;> exact kit_ty (by simp only [isiF]; decide +kernel)⟩
  | tup xs =>
    obtain ⟨a, vs, rfl, h1, h2⟩ := r.tup e
    refine ⟨"tuple", ?_, fun ty => by cases ty <;> exact kit_ty (by simp only [isiF]; decide +kernel)⟩
    rcases h1 with (h | ⟨ob, h⟩) | ⟨ob, its, n, h, hc, _⟩
    · exact .base (.tup h)
    · exact .fTuple h
    · exact .kTuple h hc
  | lst xs =>
    obtain ⟨a, vs, rfl, h1, h2⟩ := r.lst e
    refine ⟨"list", ?_, fun ty => by cases ty <;> exact kit_ty (by simp only [isiF]; decide +kernel)⟩
    rcases h1 with (h | ⟨ob, h⟩) | ⟨ob, its, n, h, hc, _⟩
    · exact .base (.lst h)
    · exact .base (.frz h)
    · exact .kList h hc
theorem boot_it (t : IT) : bootBuiltins (Str.ofString t.nm) = some (.type t.nm) ∧ Str.ofString t.nm ≠ "__name__" ∧ Str.ofString t.nm ∈ bnames := by
  cases t <;> decide +kernel
theorem isi_ok (w : WX X G k) {ty : IT} {p p2 : Pos} (hg : globB X.env.scope "isinstance" = true) (hg2 : globB X.env.scope (Str.ofString ty.nm) = true) (hs : notStar x = true) (ha : PE X x (tAr X.K (opnd G a))) :
    PE X (.Call (.Name "isinstance" p) [x, .Name (Str.ofString ty.nm) p2] [] pos) (tEv X.K (ev G (.isi a ty))) := by
  obtain ⟨b1, b2, b3⟩ := boot_it ty
  have ht : PE X (.Name (Str.ofString ty.nm) p2) (tC (.ty ty.nm)) := pe_bltn (globB_ok hg2).1 (w.blt _ b3) b1 rfl b2 (globB_ok hg2).2
  refine (pe_callB call_isi (globB_ok hg).1 (w.blt _ (by decide)) boot_isinstance (pa_cons ha (pa_cons ht pa_nil) (star_cons hs)) (by decide) (by decide) (star_cons hs) (by rfl)).imp fun σ H Q h => ?_
  obtain ⟨fm, F, ρ, d, ρ', o, e, q⟩ := h
  unfold ev at e
  obtain ⟨⟨oa, ρ2⟩, e1, e2⟩ := Out.bind_inv e
  obtain ⟨d1, e3, e4⟩ := Out.bind_inv e2
  cases e4
  refine ⟨fm, F, ρ, oa, _, o, e1, fun v F1 H1 o1 x1 r1 => ?_⟩
  obtain ⟨t, h1, h2⟩ := isi_ty o1.exF (r1.rd o1 (Out.of_ok e3))
  exact ⟨v, .ty ty.nm, _, _, _, rfl, .ty _, h1, h2 ty, q _ F1 H1 o1 x1 (.bl _)⟩
/-- tests -/
theorem c_nil {c : Bool} : PW X (.BoolOp (if c then .And else .Or) [] pos) (tEvT X.K (evC G c [])) := by
  refine ⟨fun wh pins s σ H Q I h => ?_⟩
  obtain ⟨fm, F, ρ, bb, ρ', o, e, q⟩ := h
  unfold evC at e
  cases e
  cases c with
  | true => exact isTrue_and_nil (⟨H, I, q F H o (Ex.refl F)⟩)
  | false => exact isTrue_or_nil (⟨H, I, q F H o (Ex.refl F)⟩)
theorem c_cons {c : Bool} {t : T} {ts : List T} (ha : PT X x (tEvT X.K (evT G t))) (hr : PW X (.BoolOp (if c then .And else .Or) es pos) (tEvT X.K (evC G c ts))) :
    PW X (.BoolOp (if c then .And else .Or) (x :: es) pos) (tEvT X.K (evC G c (t :: ts))) := by
  refine ⟨fun wh pins s σ H Q I h => ?_⟩
  obtain ⟨fm, F, ρ, bb, ρ', o, e, q⟩ := h
  unfold evC at e
  obtain ⟨⟨b1, ρ1⟩, e1, e2⟩ := Out.bind_inv e
  have go := ha.run pins s σ H (fun b' H1 => ∃ F1, b' = b1 ∧ OK X.K fm F1 ρ1 σ H1 ∧ Ex F F1) I ⟨fm, F, ρ, b1, ρ1, o, e1, fun F1 H1 o1 x1 => ⟨F1, rfl, o1, x1⟩⟩
  cases c with
  | true =>
    refine isTrue_and (thn go fun c1 s1 ⟨H1, I1, F1, hb, o1, x1⟩ => ?_)
    subst hb
    cases c1 with
    | true =>
      have e2 : evC G true ts ρ1 = _ := e2
      exact hr.run wh pins s1 σ H1 Q I1 ⟨fm, F1, ρ1, bb, ρ', o1, e2, fun F2 H2 o2 x2 => q F2 H2 o2 (x1.trans x2)⟩
    | false => cases e2; exact ⟨H1, I1, q F1 H1 o1 x1⟩
  | false =>
    refine isTrue_or (thn go fun c1 s1 ⟨H1, I1, F1, hb, o1, x1⟩ => ?_)
    subst hb
    cases c1 with
    | false =>
      have e2 : evC G false ts ρ1 = _ := e2
      exact hr.run wh pins s1 σ H1 Q I1 ⟨fm, F1, ρ1, bb, ρ', o1, e2, fun F2 H2 o2 x2 => q F2 H2 o2 (x1.trans x2)⟩
    | true => cases e2; exact ⟨H1, I1, q F1 H1 o1 x1⟩
theorem cT_ok {c : Bool} {ts : List T} (h : PW X y (tEvT X.K (evC G c ts))) : PT X y (tEvT X.K (evT G (.bop c ts))) := h.pt.imp fun σ H Q h => by
  obtain ⟨fm, F, ρ, d, ρ', o, e, q⟩ := h
  unfold evT at e
  exact ⟨fm, F, ρ, d, ρ', o, e, q⟩
theorem nT_ok {t : T} (h : PT X x (tEvT X.K (evT G t))) : PT X (.UnaryOp .Not x pos) (tEvT X.K (evT G (.not t))) := (pt_not h).imp fun σ H Q h => by
  obtain ⟨fm, F, ρ, d, ρ', o, e, q⟩ := h
  unfold evT at e
  obtain ⟨⟨b1, ρ1⟩, e1, e2⟩ := Out.bind_inv e
  cases e2
  exact ⟨fm, F, ρ, b1, _, o, e1, q⟩
end
end Px
set_option Elab.async false
set_option linter.all false
set_option maxRecDepth 100000
set_option maxHeartbeats 2000000
namespace Px
open PySem PySem.Spec PyProof.Rows L2
/-! ### calls -/
/-- a value, or a new list of our own -/
def SlotRes (K : PySem.W.Frag) (fm : Fm) (F : Hp) (ρ : PEnv) (σ : L2.St) (H : Hp) (v : V) : Slot → Prop
  | .dat d => Rep K F v d
  | .own ys => Mine K fm F ρ σ H v ys
section
variable {K : PySem.W.Frag} {fm : Fm} {F H : Hp} {ρ : PEnv} {σ : L2.St}
theorem args_ok (o : OK K fm F ρ σ H) : ∀ {vs : List V} {os : List Opd} {as : List Slot}, OpdsOk K F σ vs os → argS ρ os = some as → ArgsOk K F H vs as
  | _, _, _, .nil, e => by cases e; exact .nil
  | _, _, as, .cons (o := op) (os := os) h r, e => by
    cases op with
    | val d =>
      unfold argS at e
      simp only [Option.map_eq_some_iff] at e
      obtain ⟨as', e1, rfl⟩ := e
      exact .cons h (args_ok o r e1)
    | slot i =>
      unfold argS at e
      split at e
      · rename_i xs hs
        simp only [Option.map_eq_some_iff] at e
        obtain ⟨as', e1, rfl⟩ := e
        refine .cons ?_ (args_ok o r e1)
        obtain ⟨v, h1, p, ws, rfl, b1, b2, b3, b4⟩ := o.slot i _ hs
        have h' : σ[i]? = some (some _) := h
        rw [h'] at h1; cases h1
        exact ⟨p, ws, rfl, b2, b3, b4⟩
      · cases e
/-- the j-th argument, a list of our own, is the slot's -/
theorem args_slot : ∀ {os : List Opd} {as : List Slot} {j : Nat} {xs : List D}, argS ρ os = some as → as[j]? = some (Slot.own xs) → ∃ i, os[j]? = some (Opd.slot i) ∧ getS ρ i = some (.own xs)
  | [], as, j, xs, e, h => by cases e; simp at h
  | .val d :: os, as, j, xs, e, h => by
    unfold argS at e
    simp only [Option.map_eq_some_iff] at e
    obtain ⟨as', e1, rfl⟩ := e
    cases j with
    | zero => simp at h
    | succ j => obtain ⟨i, h1, h2⟩ := args_slot (j := j) e1 (by simpa using h); exact ⟨i, by simpa using h1, h2⟩
  | .slot i :: os, as, j, xs, e, h => by
    unfold argS at e
    split at e
    · rename_i ys hs
      simp only [Option.map_eq_some_iff] at e
      obtain ⟨as', e1, rfl⟩ := e
      cases j with
      | zero => simp at h; subst h; exact ⟨i, rfl, hs⟩
      | succ j => obtain ⟨i2, h1, h2⟩ := args_slot (j := j) e1 (by simpa using h); exact ⟨i2, by simpa using h1, h2⟩
    · cases e
theorem args_own : ∀ {os : List Opd} {as : List Slot} {j i : Nat}, argS ρ os = some as → os[j]? = some (Opd.slot i) → ∃ xs, as[j]? = some (Slot.own xs) ∧ getS ρ i = some (.own xs)
  | [], as, j, i, e, h => by simp at h
  | .val d :: os, as, j, i, e, h => by
    unfold argS at e
    simp only [Option.map_eq_some_iff] at e
    obtain ⟨as', e1, rfl⟩ := e
    cases j with
    | zero => simp at h
    | succ j => obtain ⟨xs, h1, h2⟩ := args_own (j := j) e1 (by simpa using h); exact ⟨xs, by simpa using h1, h2⟩
  | .slot i2 :: os, as, j, i, e, h => by
    unfold argS at e
    split at e
    · rename_i ys hs
      simp only [Option.map_eq_some_iff] at e
      obtain ⟨as', e1, rfl⟩ := e
      cases j with
      | zero => simp at h; subst h; exact ⟨ys, rfl, hs⟩
      | succ j => obtain ⟨xs, h1, h2⟩ := args_own (j := j) e1 (by simpa using h); exact ⟨xs, by simpa using h1, h2⟩
    · cases e
theorem slots_mem : ∀ {os : List Opd} {i : Nat}, i ∈ slotsOf os ↔ ∃ j : Nat, os[j]? = some (Opd.slot i)
  | [], i => by simp [slotsOf]
  | .val d :: os, i => by
    unfold slotsOf
    rw [slots_mem]
    constructor
    · rintro ⟨j, h⟩; exact ⟨j + 1, by simpa using h⟩
    · rintro ⟨j, h⟩
      cases j with
      | zero => simp at h
      | succ j => exact ⟨j, by simpa using h⟩
  | .slot k :: os, i => by
    unfold slotsOf
    rw [List.mem_cons, slots_mem]
    constructor
    · rintro (h | ⟨j, h⟩)
      · exact ⟨0, by simp [h]⟩
      · exact ⟨j + 1, by simpa using h⟩
    · rintro ⟨j, h⟩
      cases j with
      | zero => simp at h; exact .inl h.symm
      | succ j => exact .inr ⟨j, by simpa using h⟩
theorem slots_inj : ∀ {os : List Opd} {i j k : Nat}, (slotsOf os).Nodup → os[j]? = some (Opd.slot i) → os[k]? = some (Opd.slot i) → j = k
  | [], i, j, k, n, h1, h2 => by simp at h1
  | .val d :: os, i, j, k, n, h1, h2 => by
    unfold slotsOf at n
    cases j with
    | zero => simp at h1
    | succ j =>
      cases k with
      | zero => simp at h2
      | succ k => have := slots_inj (os := os) (i := i) (j := j) (k := k) n (by simpa using h1) (by simpa using h2); omega
  | .slot m :: os, i, j, k, n, h1, h2 => by
    unfold slotsOf at n
    rw [List.nodup_cons] at n
    cases j with
    | zero =>
      simp at h1; subst h1
      cases k with
      | zero => rfl
      | succ k => exact absurd (slots_mem.mpr ⟨k, by simpa using h2⟩) n.1
    | succ j =>
      cases k with
      | zero => simp at h2; subst h2; exact absurd (slots_mem.mpr ⟨j, by simpa using h1⟩) n.1
      | succ k => have := slots_inj (os := os) (i := i) (j := j) (k := k) n.2 (by simpa using h1) (by simpa using h2); omega
/-- the slots behind the call -/
theorem backA_ok : ∀ {outs : PEnv} {os : List Opd} {k : Nat} {ρ ρ2 : PEnv}, (∀ i ∈ slotsOf os, i < ρ.length) → (slotsOf os).Nodup → backA outs k os ρ = some ρ2 →
    ρ2.length = ρ.length ∧ (∀ i, i ∉ slotsOf os → getS ρ2 i = getS ρ i) ∧ ∀ (i j : Nat), os[j]? = some (Opd.slot i) → ∃ ys, getS outs (k + j) = some (.own ys) ∧ getS ρ2 i = some (.own ys)
  | outs, [], k, ρ, ρ2, _, _, e => by cases e; exact ⟨rfl, fun _ _ => rfl, fun i j h => by simp at h⟩
  | outs, .val d :: os, k, ρ, ρ2, hl, n, e => by
    unfold backA at e
    obtain ⟨h1, h2, h3⟩ := backA_ok (k := k + 1) (by simpa [slotsOf] using hl) (by simpa [slotsOf] using n) e
    refine ⟨h1, by simpa [slotsOf] using h2, fun i j h => ?_⟩
    cases j with
    | zero => simp at h
    | succ j => have := h3 i j (by simpa using h); rwa [Nat.add_assoc, Nat.add_comm 1 j] at this
  | outs, .slot m :: os, k, ρ, ρ2, hl, n, e => by
    unfold backA at e
    unfold slotsOf at n
    rw [List.nodup_cons] at n
    split at e
    · rename_i ys hs
      have hm : m < ρ.length := hl m (by simp [slotsOf])
      obtain ⟨h1, h2, h3⟩ := backA_ok (k := k + 1) (fun i hi => by simpa using hl i (by simp [slotsOf, hi])) n.2 e
      refine ⟨by simpa using h1, fun i hi => ?_, fun i j h => ?_⟩
      · have hi' : i ≠ m ∧ i ∉ slotsOf os := by
          simp only [slotsOf, List.mem_cons, not_or] at hi; exact hi
        rw [h2 i hi'.2, getS_set_ne hi'.1]
      · cases j with
        | zero =>
          simp at h; subst h
          exact ⟨ys, hs, by rw [h2 m n.1, getS_set hm, if_pos rfl]⟩
        | succ j => have := h3 i j (by simpa using h); rwa [Nat.add_assoc, Nat.add_comm 1 j] at this
    · cases e
theorem OpdsOk.get : ∀ {vs : List V} {os : List Opd} {j i : Nat}, OpdsOk K F σ vs os → os[j]? = some (Opd.slot i) → ∃ v, vs[j]? = some v ∧ σ[i]? = some (some v)
  | _, _, j, i, .nil, h => by simp at h
  | _, _, 0, i, .cons h r, e => by simp at e; subst e; exact ⟨_, rfl, h⟩
  | _, _, j + 1, i, .cons h r, e => by obtain ⟨v, h1, h2⟩ := r.get (j := j) (by simpa using e); exact ⟨v, by simpa using h1, h2⟩
theorem ArgsOk.length : ∀ {vs : List V} {as : List Slot}, ArgsOk K F H vs as → vs.length = as.length
  | _, _, .nil => rfl
  | _, _, .cons _ r => by simp [r.length]
/-- the state behind a call -/
theorem call_back (o : OK K fm F ρ σ H) {vs : List V} {os : List Opd} {as : List Slot} {r : Slot} {outs ρ2 : PEnv} {v : V} {F' H' : Hp} (hos : OpdsOk K F σ vs os) (ha : argS ρ os = some as) (nd : (slotsOf os).Nodup)
    (hb : backA outs 0 os ρ = some ρ2) (c : CallPost K F H vs as r outs v F' H') : OK K fm F' ρ2 σ H' ∧ SlotRes K fm F' ρ2 σ H' v r := by
  have hl : ∀ i ∈ slotsOf os, i < ρ.length := fun i hi => by
    obtain ⟨j, hj⟩ := slots_mem.mp hi
    obtain ⟨xs, _, h2⟩ := args_own ha hj
    exact (getS_some h2).1
  obtain ⟨L, B1, B2⟩ := backA_ok hl nd hb
  -- an address of ours that is passed
  have own_of : ∀ p, ownAt as vs p → ∃ i j xs, os[j]? = some (Opd.slot i) ∧ getS ρ i = some (.own xs) ∧ σ[i]? = some (some (.ref p)) := fun p ⟨j, xs, h1, h2⟩ => by
    obtain ⟨i, h3, h4⟩ := args_slot ha h1
    obtain ⟨w, h5, h6⟩ := hos.get h3
    rw [h2] at h5; cases h5
    exact ⟨i, j, xs, h3, h4, h6⟩
  have own_addr : ∀ p, ownAt as vs p → fm.B p = none ∧ F p = none := fun p h => by
    obtain ⟨i, j, xs, _, h2, h3⟩ := own_of p h
    obtain ⟨w, h4, q, ws, rfl, b1, b2, b3, b4⟩ := o.slot i _ h2
    rw [h3] at h4; cases h4
    exact ⟨b1, b2⟩
  have hB : ∀ a u, fm.B a = some u → H' a = some u ∧ F' a = F a := fun a u e =>
    c.kept a u (o.exB a u e) fun h => by rw [(own_addr a h).1] at e; cases e
  -- the slots that are not passed
  have slot_not : ∀ i s, getS ρ i = some s → i ∉ slotsOf os → ∃ w, σ[i]? = some (some w) ∧ SlotOk K fm F' H' w s := fun i s e hi => by
    obtain ⟨w, h1, h2⟩ := o.slot i s e
    refine ⟨w, h1, ?_⟩
    cases s with
    | dat d => exact Rep.mono c.exF h2
    | own xs =>
      obtain ⟨p, ws, rfl, b1, b2, b3, b4⟩ := h2
      have hn : ¬ ownAt as vs p := fun h => by
        obtain ⟨i2, j, ys, q1, q2, q3⟩ := own_of p h
        have hne : i ≠ i2 := fun z => hi (by rw [z]; exact slots_mem.mpr ⟨j, q1⟩)
        exact o.inj i i2 _ _ hne e q2 (by rw [h1, q3])
      obtain ⟨k1, k2⟩ := c.kept p _ b3 hn
      exact ⟨p, ws, rfl, b1, by rw [k2]; exact b2, k1, b4.mono c.exF⟩
  have slot_yes : ∀ i s, getS ρ2 i = some s → i ∈ slotsOf os → ∃ ys p ws, s = .own ys ∧ σ[i]? = some (some (.ref p)) ∧ fm.B p = none ∧ F' p = none ∧ H' p = some (.lst ws) ∧ RepAll K F' ws ys ∧ ∃ xs, getS ρ i = some (.own xs) := fun i s e hi => by
    obtain ⟨j, hj⟩ := slots_mem.mp hi
    obtain ⟨ys, h1, h2⟩ := B2 i j hj
    rw [e] at h2; cases h2
    obtain ⟨xs, h3, h4⟩ := args_own ha hj
    rw [Nat.zero_add] at h1
    obtain ⟨p, ws, q1, q2, q3, q4⟩ := c.outs j xs ys h3 h1
    obtain ⟨w, q5, q6⟩ := hos.get hj
    rw [q1] at q5; cases q5
    exact ⟨ys, p, ws, rfl, q6, (own_addr p ⟨j, xs, h3, q1⟩).1, q2, q3, q4, xs, h4⟩
  have o' : OK K fm F' ρ2 σ H' := by
    refine ⟨fun a u e => (hB a u e).1, c.exH, fun a h => ?_, L.trans o.len, fun i s e => ?_, fun i j xs ys hij e1 e2 => ?_⟩
    · cases e : fm.B a with
      | none => exact absurd e h
      | some u => rw [(hB a u e).2]; exact o.base a h
    · by_cases hi : i ∈ slotsOf os
      · obtain ⟨ys, p, ws, rfl, q1, q2, q3, q4, q5, _⟩ := slot_yes i s e hi
        exact ⟨_, q1, p, ws, rfl, q2, q3, q4, q5⟩
      · rw [B1 i hi] at e
        exact slot_not i s e hi
    · have was : ∀ i xs, getS ρ2 i = some (.own xs) → ∃ zs, getS ρ i = some (.own zs) := fun i xs e => by
        by_cases hi : i ∈ slotsOf os
        · obtain ⟨_, _, _, _, _, _, _, _, _, h⟩ := slot_yes i _ e hi; exact h
        · rw [B1 i hi] at e; exact ⟨xs, e⟩
      obtain ⟨z1, h1⟩ := was i xs e1
      obtain ⟨z2, h2⟩ := was j ys e2
      exact o.inj i j z1 z2 hij h1 h2
  refine ⟨o', ?_⟩
  have res := c.res
  cases r with
  | dat d => exact res
  | own ys =>
    obtain ⟨p, ws, rfl, q1, q2, q3, q4⟩ := res
    refine ⟨p, ws, rfl, o.exB.fresh q1, q2, q3, q4, fun i zs e z => ?_⟩
    obtain ⟨zs', h1⟩ : ∃ zs', getS ρ i = some (.own zs') := by
      by_cases hi : i ∈ slotsOf os
      · obtain ⟨_, _, _, _, _, _, _, _, _, h⟩ := slot_yes i _ e hi; exact h
      · rw [B1 i hi] at e; exact ⟨zs, e⟩
    obtain ⟨w, h2, a, vs2, rfl, _, _, b3, _⟩ := o.slot i _ h1
    rw [z] at h2; cases h2
    rw [q1] at b3; cases b3
end
section
variable {X : Cx} {G : Sig} {k : Nat} {x y z : Expr} {es : List Expr} {a b c : Ar} {as : List Ar} {irs : List E} {pos : Pos}
/-- what comes of a call: a value, or a new list of our own -/
def tCallS (K : PySem.W.Frag) (g : PEnv → Out (Slot × PEnv)) : TE := fun σ H Q => ∃ fm F ρ r ρ', OK K fm F ρ σ H ∧ g ρ = .ok (r, ρ') ∧ ∀ v F' H', OK K fm F' ρ' σ H' → Ex F F' → SlotRes K fm F' ρ' σ H' v r → Q v H'
theorem call_ok (w : WX X G k) {f : Str} {p : Pos} (hg : globB X.env.scope f = true) (hs : es.all notStar = true) (hl : as.length = es.length) (ha : PA X es (tArs X.K (opnds G as))) : PE X (.Call (.Name f p) es [] pos) (tCallS X.K (callR (G f) (fun ρ => opnds G as ρ))) := by
  cases hG : G f with
  | none =>
    refine ⟨fun pins s σ H Q I h => ?_⟩
    obtain ⟨fm, F, ρ, r, ρ', o, e, q⟩ := h
    cases e
  | some g =>
    obtain ⟨ad, fd, ps, h1, h2, h3, h4⟩ := w.sig f g hG
    have key : PE X (.Call (.Name f p) es [] pos) (tCall (spOf X.K g) [] E0 (tArs X.K (opnds G as))) := by
      cases es with
      | nil =>
        refine (pe_call0 h4 w.room (globB_ok hg).1 h1 h2 h3 .nil pass0 (globB_ok hg).2).imp fun σ H Q h => ?_
        cases as with
        | nil =>
          obtain ⟨fm, F, ρ, os, ρ', o, e, q⟩ := h
          unfold opnds at e
          cases e
          exact q [] F H o (Ex.refl F) .nil
        | cons a as => simp at hl
      | cons x es =>
        rw [List.all_cons, Bool.and_eq_true] at hs
        exact pe_call h4 w.room (globB_ok hg).1 h1 h2 h3 .nil pass0 ha (globB_ok hg).2 (star_cons hs.1) (noStars es hs.2)
    refine key.imp fun σ H Q h => ?_
    obtain ⟨fm, F, ρ, r, ρ', o, e, q⟩ := h
    unfold callR at e
    obtain ⟨⟨os, ρ1⟩, e1, e2⟩ := Out.bind_inv e
    obtain ⟨ss, e3, e4⟩ := Out.bind_inv e2
    obtain ⟨⟨r1, outs⟩, e5, e6⟩ := Out.bind_inv e4
    have e6 : (if (slotsOf os).Nodup then (Out.of (backA outs 0 os ρ1)).bind fun ρ2 => Out.ok (r1, ρ2) else Out.bad) = Out.ok (r, ρ') := e6
    by_cases nd : (slotsOf os).Nodup
    · rw [if_pos nd] at e6
      obtain ⟨ρ2, e7, e8⟩ := Out.bind_inv e6
      cases e8
      refine ⟨fm, F, ρ, os, ρ1, o, e1, fun vs F1 H1 o1 x1 q1 => ?_⟩
      have e3' := Out.of_ok e3
      refine ⟨F1, ss, r, outs, o1.exF, by rw [List.append_nil]; exact args_ok o1 q1 e3', fun i j xs ys hij c1 c2 => ?_, e5, fun v F2 H2 c => ?_⟩
      · rw [List.append_nil]
        obtain ⟨i1, d1, d2⟩ := args_slot e3' c1
        obtain ⟨i2, d3, d4⟩ := args_slot e3' c2
        obtain ⟨v1, g1, g2⟩ := q1.get d1
        obtain ⟨v2, g3, g4⟩ := q1.get d3
        rw [g1, g3]
        intro z
        have hne : i1 ≠ i2 := fun z2 => hij (slots_inj nd d1 (by rw [z2]; exact d3))
        exact o1.inj i1 i2 _ _ hne d2 d4 (by rw [g2, g4]; cases z; rfl)
      · rw [List.append_nil] at c
        obtain ⟨o2, rr⟩ := call_back o1 q1 e3' nd (Out.of_ok e7) c
        exact q v F2 H2 o2 (x1.trans c.exF) rr
    · rw [if_neg nd] at e6; cases e6
/-- a call's value stands still from now on -/
theorem frz_ok {g : PEnv → Out (Slot × PEnv)} (h : PE X x (tCallS X.K g)) : PE X x (tEv X.K (fun ρ => (g ρ).bind fun r => .ok (r.1.frz, r.2))) := h.imp fun σ H Q h => by
  obtain ⟨fm, F, ρ, d, ρ', o, e, q⟩ := h
  obtain ⟨⟨r1, ρ1⟩, e1, e2⟩ := Out.bind_inv e
  cases e2
  refine ⟨fm, F, ρ, r1, _, o, e1, fun v F2 H2 o2 x2 m => ?_⟩
  cases r1 with
  | dat d => exact q v F2 H2 o2 x2 m
  | own ys =>
    obtain ⟨p, vs, rfl, b1, b2, b3, b4, b5⟩ := m
    obtain ⟨o3, x3, r3⟩ := o2.freeze b1 b2 b3 b4 b5
    exact q _ _ H2 o3 (x2.trans x3) r3
theorem callD_ok {f : Str} (h : PE X x (tCallS X.K (callR (G f) (fun ρ => opnds G as ρ)))) : PE X x (tEv X.K (ev G (.call f as))) := (frz_ok h).imp fun σ H Q h => by
  obtain ⟨fm, F, ρ, d, ρ', o, e, q⟩ := h
  unfold ev at e
  exact ⟨fm, F, ρ, d, ρ', o, e, q⟩
end
end Px
set_option Elab.async false
set_option linter.all false
set_option maxRecDepth 100000
set_option maxHeartbeats 2000000
namespace Px
open PySem PySem.Spec PyProof.Rows L2
/-! ### what is walked -/
def Feed (K : PySem.W.Frag) (J : It) (ik : IK) (σ1 : L2.St) (ρ1 : PEnv) (items : List D) (F1 : Hp) : Prop := ∀ fm' F' ρ' σ' H', OK K fm' F' ρ' σ' H' → Ex F1 F' → (∀ i, ik = .brw i → getS ρ' i = getS ρ1 i ∧ σ'[i]? = σ1[i]?) →
  (∀ (n : Nat) (d : D), items[n]? = some d → J.go n H' ∧ ∀ x H2, J.yld n H' x H2 → H2 = H' ∧ Rep K F' x d) ∧ (∀ n : Nat, items.length ≤ n → J.stop n H')
def tIt (K : PySem.W.Frag) (ik : IK) (g : PEnv → Out (List D × PEnv)) : TI := fun σ H R => ∃ fm F ρ ds ρ1 items, OK K fm F ρ σ H ∧ g ρ = .ok (ds, ρ1) ∧ itemsOf ρ1 ik ds = some items ∧
  ∀ J F1 H1, OK K fm F1 ρ1 σ H1 → Ex F F1 → Feed K J ik σ ρ1 items F1 → R J H1
section
variable {X : Cx} {G : Sig} {k : Nat} {x y z tg : Expr} {es : List Expr} {a b c : Ar} {as : List Ar} {irs : List E} {pos : Pos}
theorem _root_.L2.PI.imp {t t' : TI} (h : PI X tg x t) (q : ∀ σ H R, t' σ H R → t σ H R) : PI X tg x t' := ⟨fun pins s σ H R I w => h.run pins s σ H R I (q σ H R w)⟩
theorem PI.orr {t u : TI} (h : PI X tg x t) (h' : PI X tg x u) : PI X tg x (fun σ H R => t σ H R ∨ u σ H R) := ⟨fun pins s σ H R I w => w.elim (h.run pins s σ H R I) (h'.run pins s σ H R I)⟩
theorem feed_tup {K : PySem.W.Frag} {ik : IK} {σ1 : L2.St} {ρ1 : PEnv} {F1 : Hp} {p : Addr} {vs : List V} {xs : List D} (h : SqT K F1 p vs) (r : RepAll K F1 vs xs) (u : ∀ H ys, SqT K H p vs → SqT K H p ys → True) : Feed K (Itt K p) ik σ1 ρ1 xs F1 := fun fm' F' ρ' σ' H' o e _ => by
  have h' : SqT K H' p vs := o.exF.sqT (e.sqT h)
  refine ⟨fun n d hd => ?_, fun n hn => ⟨vs, h', by rw [r.length]; exact hn⟩⟩
  obtain ⟨v, hv, rv⟩ := r.get' hd
  refine ⟨⟨vs, v, h', hv⟩, fun x H2 y => ?_⟩
  obtain ⟨e1, e2⟩ := y
  have := e2 vs h'
  rw [hv] at this; cases this
  exact ⟨e1, rv.mono e⟩
theorem feed_lst {K : PySem.W.Frag} {ik : IK} {σ1 : L2.St} {ρ1 : PEnv} {F1 : Hp} {p : Addr} {vs : List V} {xs : List D} (h : SqL K F1 p vs) (r : RepAll K F1 vs xs) : Feed K (Itl K p) ik σ1 ρ1 xs F1 := fun fm' F' ρ' σ' H' o e _ => by
  have h' : SqL K H' p vs := o.exF.sqL (e.sqL h)
  refine ⟨fun n d hd => ?_, fun n hn => ⟨vs, h', by rw [r.length]; exact hn⟩⟩
  obtain ⟨v, hv, rv⟩ := r.get' hd
  refine ⟨⟨vs, v, h', hv⟩, fun x H2 y => ?_⟩
  obtain ⟨e1, e2⟩ := y
  have := e2 vs h'
  rw [hv] at this; cases this
  exact ⟨e1, rv.mono e⟩
theorem feed_rng {K : PySem.W.Frag} {ik : IK} {σ1 : L2.St} {ρ1 : PEnv} {F1 : Hp} (lo hi : Int) : Feed K (Itr lo (hi - lo).toNat) ik σ1 ρ1 (rngItems lo hi) F1 := fun fm' F' ρ' σ' H' o e _ => by
  unfold rngItems
  refine ⟨fun n d hd => ?_, fun n hn => by rw [List.length_map, List.length_range] at hn; exact hn⟩
  rw [List.getElem?_map] at hd
  cases c : (List.range (hi - lo).toNat)[n]? with
  | none => rw [c] at hd; cases hd
  | some m =>
    rw [c] at hd; cases hd
    obtain ⟨h1, h2⟩ := List.getElem?_eq_some_iff.mp c
    rw [List.length_range] at h1
    rw [List.getElem_range] at h2
    subst h2
    refine ⟨h1, fun x H2 y => ?_⟩
    obtain ⟨e1, e2⟩ := y
    subst e2
    exact ⟨e1, .int _⟩
theorem seq_ok {i : E} (h : PE X x (tEv X.K (ev G i))) : PI X tg x (tIt X.K .seq (evs G [i])) :=
  (PI.orr (pi_list (tg := tg) h) (pi_tup (tg := tg) h)).imp fun σ H R h => by
    obtain ⟨fm, F, ρ, ds, ρ1, items, o, e, ei, q⟩ := h
    unfold evs at e
    obtain ⟨⟨d, ρ2⟩, e1, e2⟩ := Out.bind_inv e
    obtain ⟨⟨r1, ρ3⟩, e3, e4⟩ := Out.bind_inv e2
    cases e4
    unfold evs at e3
    cases e3
    unfold itemsOf seqOf at ei
    cases d <;> try (simp at ei; done)
    · cases ei
      refine .inr ⟨fm, F, ρ, _, _, o, e1, fun v F1 H1 o1 x1 r1 => ?_⟩
      cases r1 with
      | tup h1 h2 => exact ⟨_, rfl, ⟨_, o1.exF.sqT h1⟩, q _ F1 H1 o1 x1 (feed_tup h1 h2 fun _ _ _ _ => trivial)⟩
    · cases ei
      refine .inl ⟨fm, F, ρ, _, _, o, e1, fun v F1 H1 o1 x1 r1 => ?_⟩
      cases r1 with
      | lst h1 h2 => exact ⟨_, rfl, ⟨_, o1.exF.sqL h1⟩, q _ F1 H1 o1 x1 (feed_lst h1 h2)⟩
theorem brw_ok {i : Nat} {n : Str} (h : varB X.N X.env.scope i n = true) : PI X tg (.Name n pos) (tIt X.K (.brw i) (evs G [])) :=
  (pi_list (tg := tg) (varB_ok h)).imp fun σ H R h => by
    obtain ⟨fm, F, ρ, ds, ρ1, items, o, e, ei, q⟩ := h
    unfold evs at e
    cases e
    have ei : (match getS ρ i with
      | some (.own xs) => some xs
      | _ => none) = some items := ei
    split at ei
    · rename_i xs hs
      cases ei
      obtain ⟨v, h1, p, vs, rfl, b1, b2, b3, b4⟩ := o.slot _ _ hs
      refine ⟨_, h1, p, rfl, ⟨vs, SqL.of b3⟩, q _ F H o (Ex.refl F) ?_⟩
      intro fm' F' ρ' σ' H' o' e' hb
      obtain ⟨g1, g2⟩ := hb _ rfl
      obtain ⟨v', h1', p', vs', rfl, c1, c2, c3, c4⟩ := o'.slot _ _ (g1.trans hs)
      rw [g2, h1] at h1'
      cases h1'
      have h' : SqL X.K H' p vs' := SqL.of c3
      refine ⟨fun n d hd => ?_, fun n hn => ⟨vs', h', by rw [c4.length]; exact hn⟩⟩
      obtain ⟨v, hv, rv⟩ := c4.get' hd
      refine ⟨⟨vs', v, h', hv⟩, fun x H2 y => ?_⟩
      obtain ⟨e1, e2⟩ := y
      have := e2 vs' h'
      rw [hv] at this; cases this
      exact ⟨e1, rv⟩
    · cases ei
theorem okRng_ok {i : Int} (h : okRng i = true) : -(2 ^ 62) ≤ i ∧ i < 2 ^ 62 := by
  unfold okRng at h
  simp only [Bool.and_eq_true, decide_eq_true_eq] at h
  exact h
theorem RepAll.one_inv {K : PySem.W.Frag} {F : Hp} {vs : List V} {i : Int} (h : RepAll K F vs [.int i]) : vs = [.int i] := by
  cases h with | cons h r => cases r; cases h; rfl
theorem RepAll.two_inv {K : PySem.W.Frag} {F : Hp} {vs : List V} {i j : Int} (h : RepAll K F vs [.int i, .int j]) : vs = [.int i, .int j] := by
  cases h with | cons h r => cases r with | cons h2 r => cases r; cases h; cases h2; rfl
theorem rng1_ok (w : WX X G k) {p : Pos} (hg : globB X.env.scope "range" = true) (hs : notStar x = true) (h : PA X [x] (tEvs X.K (evs G irs))) (hl : irs.length = 1) : PI X tg (.Call (.Name "range" p) [x] [] pos) (tIt X.K .rng (evs G irs)) :=
  (pi_range1 (globB_ok hg).1 (w.blt _ (by decide)) h (star_cons hs)).imp fun σ H R h => by
    obtain ⟨fm, F, ρ, ds, ρ1, items, o, e, ei, q⟩ := h
    unfold itemsOf rngOf at ei
    refine ⟨fm, F, ρ, ds, ρ1, o, e, fun vs F1 H1 o1 x1 r1 => ?_⟩
    simp only at ei
    split at ei
    · split at ei
      · rename_i hi hr
        cases ei
        obtain rfl := r1.one_inv
        obtain ⟨b1, b2⟩ := okRng_ok hr
        refine ⟨_, rfl, b1, b2, ?_⟩
        have f := feed_rng (K := X.K) (ik := .rng) (σ1 := σ) (ρ1 := ρ1) (F1 := F1) 0 hi
        rw [Int.sub_zero] at f
        exact q _ F1 H1 o1 x1 f
      · cases ei
    · exfalso
      have := r1.length
      have hz : irs.length = 2 := evs_len e
      omega
    · cases ei
where evs_len {i j : Int} {G : Sig} : ∀ {irs : List E} {ρ ρ1 : PEnv}, evs G irs ρ = .ok ([.int i, .int j], ρ1) → irs.length = 2
  | irs, ρ, ρ1, e => by
    have gen : ∀ (irs : List E) (ρ ρ1 : PEnv) (ds : List D), evs G irs ρ = .ok (ds, ρ1) → ds.length = irs.length := by
      intro irs
      induction irs with
      | nil => intro ρ ρ1 ds e; unfold evs at e; cases e; rfl
      | cons i r ih =>
        intro ρ ρ1 ds e
        unfold evs at e
        obtain ⟨⟨d, ρ2⟩, e1, e2⟩ := Out.bind_inv e
        obtain ⟨⟨r1, ρ3⟩, e3, e4⟩ := Out.bind_inv e2
        cases e4
        simp [ih _ _ _ e3]
    have := gen irs ρ ρ1 _ e
    simpa using this.symm
theorem evs_length {irs : List E} : ∀ {ρ ρ1 : PEnv} {ds : List D}, evs G irs ρ = .ok (ds, ρ1) → ds.length = irs.length := by
  induction irs with
  | nil => intro ρ ρ1 ds e; unfold evs at e; cases e; rfl
  | cons i r ih =>
    intro ρ ρ1 ds e
    unfold evs at e
    obtain ⟨⟨d, ρ2⟩, e1, e2⟩ := Out.bind_inv e
    obtain ⟨⟨r1, ρ3⟩, e3, e4⟩ := Out.bind_inv e2
    cases e4
    simp [ih e3]
theorem rng2_ok (w : WX X G k) {p : Pos} (hg : globB X.env.scope "range" = true) (hs : notStar x = true) (hs2 : notStar y = true) (h : PA X [x, y] (tEvs X.K (evs G irs))) (hl : irs.length = 2) : PI X tg (.Call (.Name "range" p) [x, y] [] pos) (tIt X.K .rng (evs G irs)) :=
  (pi_range2 (globB_ok hg).1 (w.blt _ (by decide)) h (by rw [star_cons hs, star_cons hs2]; rfl) (star_cons hs2)).imp fun σ H R h => by
    obtain ⟨fm, F, ρ, ds, ρ1, items, o, e, ei, q⟩ := h
    unfold itemsOf rngOf at ei
    refine ⟨fm, F, ρ, ds, ρ1, o, e, fun vs F1 H1 o1 x1 r1 => ?_⟩
    have hz := evs_length e
    simp only at ei
    split at ei
    · exfalso
      simp at hz; omega
    · split at ei
      · rename_i lo hi hr
        cases ei
        obtain rfl := r1.two_inv
        rw [Bool.and_eq_true] at hr
        obtain ⟨b1, b2⟩ := okRng_ok hr.1
        obtain ⟨b3, b4⟩ := okRng_ok hr.2
        exact ⟨_, _, rfl, ⟨b1, b2, b3, b4⟩, q _ F1 H1 o1 x1 (feed_rng lo hi)⟩
      · cases ei
    · cases ei

/-! ### targets -/
def gTs : List Nat → TGs
  | [] => gNil
  | i :: is => gCons (gName i) (gTs is)
def gT (K : PySem.W.Frag) : Bool × List Nat → TG
  | (false, [i]) => gName i
  | (true, is) => gTup K is.length (gTs is)
  | _ => fun _ _ _ _ => False
def FnL (X : Cx) (sc : Scope) : Prop := ∀ x, locB sc x = true → Loc X.env.scope x ∧ (X.fn x = true ∨ X.env.scope.names.lookup x = some .local)
theorem t1_ok {sc : Scope} (hf : FnL X sc) (nd : X.N.Nodup) {i : Nat} (h : ckT1 X.N sc i x = true) : PG X x (gName i) := by
  unfold ckT1 at h
  split at h
  · rw [Bool.and_eq_true, decide_eq_true_eq] at h
    obtain ⟨h1, h2⟩ := hf _ h.2
    exact pg_name nd h.1 h1 h2
  · cases h
theorem notStar_asg {e : Expr} {es : List Expr} {env : Env} (h : notStar e = true) : assignEach (e :: es) env = (false, assign e env) :: assignEach es env := by
  cases e <;> first | rfl | (simp [notStar] at h)
theorem ts_ok {sc : Scope} (hf : FnL X sc) (nd : X.N.Nodup) : ∀ {is : List Nat} {es : List Expr}, ckTs X.N sc is es = true → PGs X es (gTs is) ∧ (assignEach es X.env).length = is.length ∧ (assignEach es X.env).findIdx? (·.1) = none
  | [], [], _ => ⟨pgs_nil, rfl, rfl⟩
  | [], _ :: _, h => by simp [ckTs] at h
  | _ :: _, [], h => by simp [ckTs] at h
  | i :: is, e :: es, h => by
    unfold ckTs at h
    simp only [Bool.and_eq_true] at h
    obtain ⟨h1, h2, h3⟩ := ts_ok hf nd h.2
    refine ⟨pgs_cons (t1_ok hf nd h.1.1) h1 (by rw [notStar_asg h.1.2]; rfl), by rw [notStar_asg h.1.2]; simp [h2], ?_⟩
    rw [notStar_asg h.1.2, List.findIdx?_cons]
    simp [h3]
theorem tg_ok {sc : Scope} (hc : X.calm = true) (hf : FnL X sc) (nd : X.N.Nodup) {t : Bool × List Nat} (h : ckTg X.N sc t x = true) : PG X x (gT X.K t) := by
  unfold ckTg at h
  split at h
  · exact t1_ok hf nd h
  · obtain ⟨h1, h2, h3⟩ := ts_ok hf nd h
    exact pg_tup hc h1 h2 h3
  · cases h
theorem wipe_set {i : Nat} {v : Option V} : ∀ {vs : List Nat} {σ : L2.St}, i ∈ vs → wipe (σ.set i v) vs = wipe σ vs
  | [], σ, h => by cases h
  | j :: vs, σ, h => by
    unfold wipe
    rcases List.mem_cons.mp h with e | e
    · subst e
      have : ∀ (vs : List Nat) (σ : L2.St), (wipe (σ.set i v) vs).set i none = (wipe σ vs).set i none := by
        intro vs
        induction vs with
        | nil => intro σ; simp [wipe]
        | cons j vs ih =>
          intro σ
          unfold wipe
          by_cases c : j = i
          · subst c; rw [List.set_set, List.set_set]; exact ih σ
          · rw [List.set_comm _ _ c, List.set_comm _ _ c, ih σ]
      exact this vs σ
    · rw [wipe_set e]
/-- a store to targets -/
theorem setT_ok {K : PySem.W.Frag} {fm : Fm} {F H : Hp} {ρ ρ2 : PEnv} {σ : L2.St} {t : Bool × List Nat} {v : V} {d : D} (o : OK K fm F ρ σ H) (r : Rep K F v d) (h : setT ρ t d = some ρ2) {Q : L2.St → Hp → Prop}
    (q : ∀ σ2, OK K fm F ρ2 σ2 H → (∀ vs : List Nat, (∀ i ∈ t.2, i ∈ vs) → wipe σ2 vs = wipe σ vs) → (∀ j, j ∉ t.2 → σ2[j]? = σ[j]?) → Q σ2 H) : gT K t v σ H Q := by
  unfold setT at h
  split at h
  · cases h
    exact q _ (o.setD r) (fun vs hv => wipe_set (hv _ (by simp))) (fun j hj => by rw [List.getElem?_set_ne (by simpa using Ne.symm (by simpa using hj))])
  · rename_i is ds
    split at h
    · rename_i hl
      cases h
      cases r with
      | tup h1 h2 =>
        rename_i a vs
        refine ⟨a, vs, rfl, o.exF.sqT h1, by rw [h2.length]; exact hl.symm, ?_⟩
        have gen : ∀ (is : List Nat) (ds : List D) (vs : List V) (ρ : PEnv) (σ : L2.St) (Q : L2.St → Hp → Prop), is.length = ds.length → OK K fm F ρ σ H → RepAll K F vs ds →
            (∀ σ2, OK K fm F (setT.go ρ is ds) σ2 H → (∀ vs : List Nat, (∀ i ∈ is, i ∈ vs) → wipe σ2 vs = wipe σ vs) → (∀ j, j ∉ is → σ2[j]? = σ[j]?) → Q σ2 H) → gTs is vs σ H Q := by
          intro is
          induction is with
          | nil =>
            intro ds vs ρ σ Q hl o r q
            cases ds with
            | nil => cases r; exact ⟨rfl, q σ o (fun _ _ => rfl) (fun _ _ => rfl)⟩
            | cons _ _ => simp at hl
          | cons i is ih =>
            intro ds vs ρ σ Q hl o r q
            cases ds with
            | nil => simp at hl
            | cons d ds =>
              cases r with
              | cons r1 r2 =>
                rename_i v vs
                refine ⟨v, vs, rfl, ih ds vs _ _ _ (by simpa using hl) (o.setD r1) r2 fun σ2 o2 w2 k2 => q σ2 o2 (fun ws hw => ?_) fun j hj => ?_⟩
                · rw [w2 ws (fun i hi => hw i (List.mem_cons_of_mem _ hi)), wipe_set (hw i (by simp))]
                · simp only [List.mem_cons, not_or] at hj
                  rw [k2 j hj.2, List.getElem?_set_ne (Ne.symm hj.1)]
        exact gen is ds vs ρ σ Q hl o h2 q
    · cases h
  · cases h
end
end Px
set_option Elab.async false
set_option linter.all false
set_option maxRecDepth 100000
set_option maxHeartbeats 2000000
namespace Px
open PySem PySem.Spec PyProof.Rows L2
section
variable {K : PySem.W.Frag} {fm : Fm} {F H : Hp} {ρ ρ0 : PEnv} {σ : L2.St}
theorem OK.wipe (o : OK K fm F ρ σ H) : ∀ vs : List Nat, OK K fm F (wipeP ρ vs) (wipe σ vs) H
  | [] => o
  | v :: vs => (o.wipe vs).unset2 v
theorem wipeP_get {i : Nat} {s : Slot} : ∀ {vs : List Nat}, getS (wipeP ρ vs) i = some s → i ∉ vs ∧ getS ρ i = some s
  | [], h => ⟨by simp, h⟩
  | v :: vs, h => by
    unfold wipeP at h
    obtain ⟨h1, h2⟩ := getS_set_none h
    obtain ⟨h3, h4⟩ := wipeP_get h2
    exact ⟨by simp [h1, h3], h4⟩
theorem wipeP_not {i : Nat} : ∀ {vs : List Nat}, i ∉ vs → getS (wipeP ρ vs) i = getS ρ i
  | [], h => rfl
  | v :: vs, h => by
    simp only [List.mem_cons, not_or] at h
    unfold wipeP
    rw [getS_set_ne h.1, wipeP_not h.2]
theorem wipe_not {i : Nat} : ∀ {vs : List Nat}, i ∉ vs → (L2.wipe σ vs)[i]? = σ[i]?
  | [], h => rfl
  | v :: vs, h => by
    simp only [List.mem_cons, not_or] at h
    unfold L2.wipe
    rw [List.getElem?_set_ne (Ne.symm h.1), wipe_not h.2]
theorem backP_len : ∀ vs : List Nat, (backP ρ0 ρ vs).length = ρ.length
  | [] => rfl
  | v :: vs => by unfold backP; rw [List.length_set, backP_len vs]
theorem backP_get {i : Nat} {s : Slot} : ∀ {vs : List Nat}, getS (backP ρ0 ρ vs) i = some s → (i ∈ vs ∧ getS ρ0 i = some s) ∨ (i ∉ vs ∧ getS ρ i = some s)
  | [], h => .inr ⟨by simp, h⟩
  | v :: vs, h => by
    unfold backP at h
    by_cases c : i = v
    · subst c
      obtain ⟨h1, h2⟩ := getS_some h
      rw [List.length_set] at h1
      rw [getS_set h1, if_pos rfl] at h
      exact .inl ⟨by simp, h⟩
    · rw [getS_set_ne c] at h
      rcases backP_get h with ⟨h1, h2⟩ | ⟨h1, h2⟩
      · exact .inl ⟨List.mem_cons_of_mem _ h1, h2⟩
      · exact .inr ⟨by simp [c, h1], h2⟩
theorem OK.back {F1 H1 : Hp} (o1 : OK K fm F1 ρ0 σ H1) (e : Ex F1 F) {vs : List Nat} (hv : (vs.all fun v => !isOwn (getS ρ0 v)) = true) (o : OK K fm F ρ (L2.wipe σ vs) H) : OK K fm F (backP ρ0 ρ vs) σ H := by
  have no : ∀ i xs, i ∈ vs → getS ρ0 i ≠ some (.own xs) := fun i xs hi h => by
    have := List.all_eq_true.mp hv i hi
    rw [h] at this
    simp [isOwn] at this
  refine ⟨o.exB, o.exF, o.base, ?_, fun i s h => ?_, fun i j xs ys hij h1 h2 => ?_⟩
  · rw [backP_len, o.len, wipe_length]
  · rcases backP_get h with ⟨hi, h'⟩ | ⟨hi, h'⟩
    · obtain ⟨v, q1, q2⟩ := o1.slot i s h'
      cases s with
      | dat d => exact ⟨v, q1, Rep.mono e q2⟩
      | own xs => exact absurd h' (no i xs hi)
    · obtain ⟨v, q1, q2⟩ := o.slot i s h'
      rw [wipe_not hi] at q1
      exact ⟨v, q1, q2⟩
  · rcases backP_get h1 with ⟨hi, h1'⟩ | ⟨hi, h1'⟩
    · exact absurd h1' (no i xs hi)
    · rcases backP_get h2 with ⟨hj, h2'⟩ | ⟨hj, h2'⟩
      · exact absurd h2' (no j ys hj)
      · have := o.inj i j xs ys hij h1' h2'
        rwa [wipe_not hi, wipe_not hj] at this
end
section
variable {X : Cx} {G : Sig} {k : Nat} {x y z : Expr} {es : List Expr} {a b c : Ar} {as : List Ar} {irs : List E} {pos : Pos}
theorem blk_fn {s : Shared} {H : Hp} {scope : Scope} {C : Addr} {cl : List (Str × Addr)} {fp : List Addr} : FnL (X.blk s H scope (compEnvC scope cl C X.env) fp) scope := by
  intro x h
  unfold locB at h
  have hrel : (compEnvC scope cl C X.env).scope = relS scope X.env.scope := rfl
  split at h
  · rename_i hx
    have := lookup_relS_keep (sc := X.env.scope) (k := .local) (by decide) hx
    exact ⟨.inl this, .inr this⟩
  · rename_i hx
    have := lookup_relS_keep (sc := X.env.scope) (k := .cell) (by decide) hx
    exact ⟨.inr this, .inl (by show (scope.names.lookup x == some .cell) = true; rw [hx]; rfl)⟩
  · cases h
theorem setT_own {t : Bool × List Nat} {d : D} {ρ ρ2 : PEnv} (hs : setT ρ t d = some ρ2) : ∀ j ∈ t.2, ∀ xs, getS ρ2 j ≠ some (.own xs) := by
  unfold setT at hs
  split at hs
  · cases hs
    intro j hj xs hx
    simp only [List.mem_singleton] at hj
    subst hj
    have hl := (getS_some hx).1
    rw [List.length_set] at hl
    rw [getS_set hl, if_pos rfl] at hx
    cases hx
  · split at hs
    · cases hs
      rename_i is ds hlen
      intro j hj xs
      have gen : ∀ (is : List Nat) (ds : List D) (ρ : PEnv), is.length = ds.length → (j ∈ is ∨ ∀ xs, getS ρ j ≠ some (.own xs)) → ∀ xs, getS (setT.go ρ is ds) j ≠ some (.own xs) := by
        intro is
        induction is with
        | nil =>
          intro ds ρ hl hor
          rcases hor with h | h
          · cases h
          · cases ds with
            | nil => exact h
            | cons _ _ => simp at hl
        | cons i is ih =>
          intro ds ρ hl hor
          cases ds with
          | nil => simp at hl
          | cons d ds =>
            unfold setT.go
            refine ih ds _ (by simpa using hl) ?_
            by_cases cj : j ∈ is
            · exact .inl cj
            · right
              intro xs hx
              by_cases ci : j = i
              · subst ci
                have hl := (getS_some hx).1
                rw [List.length_set] at hl
                rw [getS_set hl, if_pos rfl] at hx
                cases hx
              · rw [getS_set_ne ci] at hx
                rcases hor with h | h
                · exact (by simpa [ci, cj] using h : False).elim
                · exact h xs hx
      exact gen is ds ρ hlen (.inl hj) xs
    · cases hs
  · cases hs
theorem setT_not {t : Bool × List Nat} {d : D} {ρ ρ2 : PEnv} (hs : setT ρ t d = some ρ2) : ∀ j, j ∉ t.2 → getS ρ2 j = getS ρ j := by
  unfold setT at hs
  split at hs
  · cases hs
    intro j hj
    exact getS_set_ne (by simpa using hj)
  · split at hs
    · cases hs
      intro j hj
      have gen : ∀ (is : List Nat) (ds : List D) (ρ : PEnv), j ∉ is → getS (setT.go ρ is ds) j = getS ρ j := by
        intro is
        induction is with
        | nil => intro ds ρ _; unfold setT.go; rfl
        | cons i is ih =>
          intro ds ρ hn
          simp only [List.mem_cons, not_or] at hn
          cases ds with
          | nil => unfold setT.go; rfl
          | cons d ds =>
            unfold setT.go
            rw [ih ds _ hn.2, getS_set_ne hn.1]
      exact gen _ _ _ hj
    · cases hs
  · cases hs
/-- the turn's function -/
abbrev compF (G : Sig) (vs : List Nat) (tg : Bool × List Nat) (ik : IK) (ρq : PEnv) (conds : List T) (elt : E) : D → PEnv → Out (List D × PEnv) := fun x ρ1 => (Out.of (setT ρ1 tg x)).bind fun ρ2 => (evC G true conds ρ2).bind fun t => match t.1 with
  | true => (ev G elt t.2).bind fun r => if sameB ik ρq r.2 = true then .ok ([r.1], wipeP r.2 vs) else .bad
  | false => if sameB ik ρq t.2 = true then .ok ([], wipeP t.2 vs) else .bad
theorem compL_cons {f : D → PEnv → Out (List D × PEnv)} {d : D} {ds : List D} {ρ ρn : PEnv} {out : List D} (h : compL f (d :: ds) ρ = .ok (out, ρn)) : ∃ o1 ρ1 o2, f d ρ = .ok (o1, ρ1) ∧ compL f ds ρ1 = .ok (o2, ρn) ∧ out = o1 ++ o2 := by
  unfold compL at h
  obtain ⟨⟨o1, ρ1⟩, e1, e2⟩ := Out.bind_inv h
  obtain ⟨⟨o2, ρ2⟩, e3, e4⟩ := Out.bind_inv e2
  cases e4
  exact ⟨o1, ρ1, o2, e1, e3, rfl⟩
theorem wipeP_idem : ∀ (vs : List Nat) (ρ : PEnv), (∀ i ∈ vs, getS ρ i = none) → ∀ i, getS (wipeP ρ vs) i = getS ρ i := fun vs ρ h i => by
  by_cases c : i ∈ vs
  · rw [h i c]
    cases e : getS (wipeP ρ vs) i with
    | none => rfl
    | some s => exact absurd c (wipeP_get e).1
  · exact wipeP_not c
theorem same_ok {ik : IK} {ρ0 ρ : PEnv} (h : sameB ik ρ0 ρ = true) : ∀ i, ik = .brw i → getS ρ i = getS ρ0 i := fun i e => by
  subst e
  exact (of_decide_eq_true h).symm
theorem comp_rd {K : PySem.W.Frag} {vs : List Nat} {tg : Bool × List Nat} {ik : IK} {ies : List E} {conds : List T} {elt : E} (hv : (tg.2.all fun i => vs.contains i) = true) {σ : L2.St} {H : Hp} {Q : VK}
    (h : tOwn K (ev G (.comp vs tg ik ies conds elt)) σ H Q) : tLc (tIt K ik (evs G ies)) (gT K tg) (tEvT K (evC G true conds)) (tEv K (ev G elt)) vs σ H Q := by
  obtain ⟨fm, F, ρ, d, ρ', o, e, q⟩ := h
  unfold ev at e
  obtain ⟨⟨ds, ρ1⟩, e1, e2⟩ := Out.bind_inv e
  obtain ⟨items, e3, e4⟩ := Out.bind_inv e2
  have e4 : (if (vs.all fun v => !isOwn (getS ρ1 v)) = true then (compL (compF G vs tg ik ρ1 conds elt) items (wipeP ρ1 vs)).bind fun r => if r.1.length < lim then Out.ok (D.lst r.1, backP ρ1 r.2 vs) else Out.bad else Out.bad) = Out.ok (.lst d, ρ') := e4
  have hno : (vs.all fun v => !isOwn (getS ρ1 v)) = true := by
    by_cases c : (vs.all fun v => !isOwn (getS ρ1 v)) = true
    · exact c
    · rw [if_neg c] at e4; cases e4
  rw [if_pos hno] at e4
  obtain ⟨⟨out, ρn⟩, e5, e6⟩ := Out.bind_inv e4
  have e6 : (if out.length < lim then Out.ok (D.lst out, backP ρ1 ρn vs) else Out.bad) = Out.ok (.lst d, ρ') := e6
  have hlen : out.length < lim := by
    by_cases c : out.length < lim
    · exact c
    · rw [if_neg c] at e6; cases e6
  rw [if_pos hlen] at e6
  have hd : out = d := by cases e6; rfl
  have hr : backP ρ1 ρn vs = ρ' := by cases e6; rfl
  subst hd
  subst hr
  have ei := Out.of_ok e3
  refine ⟨fm, F, ρ, ds, ρ1, items, o, e1, ei, fun J F1 H1 o1 x1 feed => fun D hD => ?_⟩
  have hBD : fm.B D = none := o1.exB.fresh hD
  have hFD : F1 D = none := o1.exF.fresh hD
  -- a list that is walked is not one of the block's own names
  have brwv : ∀ i, ik = .brw i → i ∉ vs := fun i hik hi' => by
    subst hik
    have : ∃ xs, getS ρ1 i = some (.own xs) := by
      cases ds with
      | nil =>
        have ei : (match getS ρ1 i with
          | some (.own xs) => some xs
          | _ => none) = some items := ei
        split at ei
        · rename_i xs hs; exact ⟨xs, hs⟩
        · cases ei
      | cons a b => cases ei
    obtain ⟨xs, hx⟩ := this
    have := List.all_eq_true.mp hno i hi'
    rw [hx] at this
    simp [isOwn] at this
  have brwσ : ∀ i, ik = .brw i → (L2.wipe σ vs)[i]? = σ[i]? := fun i hik => wipe_not (brwv i hik)
  refine ⟨fun i m H' => ∃ F' ρi acc out2 accv, m = items.length - i ∧ i ≤ items.length ∧ OK K fm F' ρi (L2.wipe σ vs) H' ∧ Ex F1 F' ∧ (∀ k, ik = .brw k → getS ρi k = getS ρ1 k) ∧
    H' D = some (.lst accv) ∧ RepAll K F' accv acc ∧ F' D = none ∧ (∀ j xs, getS ρi j = some (.own xs) → (L2.wipe σ vs)[j]? ≠ some (some (.ref D))) ∧
    compL (compF G vs tg ik ρ1 conds elt) (items.drop i) ρi = .ok (out2, ρn) ∧ acc ++ out2 = out, ⟨items.length, F1, wipeP ρ1 vs, [], out, [], by simp, Nat.zero_le _, (o1.wipe vs).newH hD, Ex.refl F1, ?_, upd_same, .nil, hFD, ?_, by simpa using e5, rfl⟩, ?_⟩
  · intro k hk
    exact wipeP_not (brwv k hk)
  · intro j xs h1 h2
    obtain ⟨h3, h4⟩ := wipeP_get h1
    rw [wipe_not h3] at h2
    obtain ⟨v, q1, p, ws, rfl, b1, b2, b3, b4⟩ := o1.slot j _ h4
    rw [h2] at q1; cases q1
    rw [hD] at b3; cases b3
  rintro i m H' ⟨F', ρi, acc, out2, accv, rfl, hi', oi, xi, bi, hDi, ri, fDi, nDi, ci, hout⟩
  have fd := feed fm F' ρi (L2.wipe σ vs) H' oi xi (fun j hj => ⟨bi j hj, brwσ j hj⟩)
  by_cases hlt : i < items.length
  · right
    obtain ⟨g1, g2⟩ := fd.1 i items[i] (List.getElem?_eq_getElem hlt)
    refine ⟨g1, fun H'' => ∃ F' ρi acc out2 accv, i + 1 ≤ items.length ∧ OK K fm F' ρi (L2.wipe σ vs) H'' ∧ Ex F1 F' ∧ (∀ k, ik = .brw k → getS ρi k = getS ρ1 k) ∧
      H'' D = some (.lst accv) ∧ RepAll K F' accv acc ∧ F' D = none ∧ (∀ j xs, getS ρi j = some (.own xs) → (L2.wipe σ vs)[j]? ≠ some (some (.ref D))) ∧
      compL (compF G vs tg ik ρ1 conds elt) (items.drop (i + 1)) ρi = .ok (out2, ρn) ∧ acc ++ out2 = out, fun H'' hN => ?_, fun x H2 hy => ?_⟩
    · obtain ⟨F2, ρ2, acc2, o2, av, n1, n2⟩ := hN
      exact ⟨items.length - (i + 1), by omega, F2, ρ2, acc2, o2, av, rfl, n1, n2⟩
    · obtain ⟨eH, rx⟩ := g2 x H2 hy
      subst eH
      have hdrop : items.drop i = items[i] :: items.drop (i + 1) := List.drop_eq_getElem_cons hlt
      rw [hdrop] at ci
      obtain ⟨o3, ρ3, o4, c1, c2, c3⟩ := compL_cons ci
      obtain ⟨ρ4, c4, c5⟩ := Out.bind_inv c1
      obtain ⟨⟨t, ρ5⟩, c6, c7⟩ := Out.bind_inv c5
      refine setT_ok oi rx (Out.of_ok c4) fun σ2 o2 w2 k2 => ?_
      have hw : L2.wipe σ2 vs = L2.wipe σ vs := by
        rw [w2 vs (fun j hj => by have := List.all_eq_true.mp hv j hj; simpa using this)]
        have : ∀ (vs : List Nat) (σ : L2.St), L2.wipe (L2.wipe σ vs) vs = L2.wipe σ vs := by
          intro vs σ
          apply List.ext_getElem?
          intro j
          by_cases hj : j ∈ vs
          · have z : ∀ (τ : L2.St), j < τ.length → (L2.wipe τ vs)[j]? = some none := by
              intro τ hτ
              induction vs with
              | nil => cases hj
              | cons v vs ih =>
                unfold L2.wipe
                by_cases cj : j = v
                · subst cj; rw [List.getElem?_set_self (by rw [wipe_length]; exact hτ)]
                · rw [List.getElem?_set_ne (Ne.symm cj)]
                  exact ih (by simpa [cj] using hj)
            by_cases hl : j < σ.length
            · rw [z _ (by rw [wipe_length]; exact hl), z _ hl]
            · rw [List.getElem?_eq_none (by rw [wipe_length, wipe_length]; omega), List.getElem?_eq_none (by rw [wipe_length]; omega)]
          · rw [wipe_not hj]
        exact this vs σ
      refine ⟨hw, ?_⟩
      have nD2 : ∀ j xs, getS ρ4 j = some (.own xs) → σ2[j]? ≠ some (some (.ref D)) := fun j xs h1 h2 => by
        obtain ⟨v, q1, p, ws, rfl, b1, b2, b3, b4⟩ := o2.slot j _ h1
        rw [h2] at q1; cases q1
        have hj : j ∉ tg.2 := fun hj => by
          exact setT_own (Out.of_ok c4) j hj xs h1
        rw [k2 j hj] at h2
        have old : ∃ zs, getS ρi j = some (.own zs) := by
          rw [setT_not (Out.of_ok c4) j hj] at h1
          exact ⟨xs, h1⟩
        obtain ⟨zs, hz⟩ := old
        exact nDi j zs hz h2
      have ok2 : OK K (fm.keep D (.lst accv)) F' ρ4 σ2 H2 := o2.keep fDi hDi nD2
      refine ⟨fm.keep D (.lst accv), F', ρ4, t, ρ5, ok2, c6, fun F3 H3 o3' x3 => ?_⟩
      cases t with
      | true =>
        rw [if_pos rfl]
        obtain ⟨⟨dv, ρ6⟩, c8, c9⟩ := Out.bind_inv c7
        have c9 : (if sameB ik ρ1 ρ6 = true then Out.ok ([dv], wipeP ρ6 vs) else Out.bad) = Out.ok (o3, ρ3) := c9
        have hsame : sameB ik ρ1 ρ6 = true := by
          by_cases c : sameB ik ρ1 ρ6 = true
          · exact c
          · rw [if_neg c] at c9; cases c9
        rw [if_pos hsame] at c9
        cases c9
        refine ⟨fm.keep D (.lst accv), F3, ρ5, dv, ρ6, o3', c8, fun v F4 H4 o4' x4 r4 => ?_⟩
        obtain ⟨ok4, f4, h4, n4⟩ := o4'.unkeep hBD
        have len1 : accv.length = acc.length := ri.length
        have len2 : acc.length ≤ out.length := by rw [← hout, List.length_append]; omega
        refine ⟨accv, h4, by rw [len1, ← lim_eq]; omega, F4, wipeP ρ6 vs, acc ++ [dv], o4, accv ++ [v], by omega, ?_, (xi.trans x3).trans x4, fun k hk => ?_, upd_same, (ri.mono (x3.trans x4)).app (.one r4), f4, fun j xs h1 h2 => ?_, c2, ?_⟩
        · have := (ok4.chg (x := .lst (accv ++ [v])) hBD f4 n4).wipe vs
          rwa [hw] at this
        · rw [wipeP_not (brwv k hk)]; exact same_ok hsame k hk
        · obtain ⟨h3, h5⟩ := wipeP_get h1
          rw [← hw, wipe_not h3] at h2
          exact n4 j xs h5 h2
        · rw [← hout, c3]; simp
      | false =>
        rw [if_neg Bool.false_ne_true]
        have c7 : (if sameB ik ρ1 ρ5 = true then Out.ok ([], wipeP ρ5 vs) else Out.bad) = Out.ok (o3, ρ3) := c7
        have hsame : sameB ik ρ1 ρ5 = true := by
          by_cases c : sameB ik ρ1 ρ5 = true
          · exact c
          · rw [if_neg c] at c7; cases c7
        rw [if_pos hsame] at c7
        cases c7
        obtain ⟨ok4, f4, h4, n4⟩ := o3'.unkeep hBD
        refine ⟨F3, wipeP ρ5 vs, acc, o4, accv, by omega, ?_, xi.trans x3, fun k hk => ?_, h4, ri.mono x3, f4, fun j xs h1 h2 => ?_, c2, ?_⟩
        · have := ok4.wipe vs
          rwa [hw] at this
        · rw [wipeP_not (brwv k hk)]; exact same_ok hsame k hk
        · obtain ⟨h3, h5⟩ := wipeP_get h1
          rw [← hw, wipe_not h3] at h2
          exact n4 j xs h5 h2
        · rw [← hout, c3]; simp
  · left
    have hie : i = items.length := by omega
    subst hie
    refine ⟨fd.2 _ (Nat.le_refl _), ?_⟩
    rw [List.drop_length] at ci
    unfold compL at ci
    cases ci
    rw [List.append_nil] at hout
    subst hout
    have ob := o1.back xi hno oi
    refine q _ F' H' ob (x1.trans xi) ⟨D, accv, rfl, hBD, fDi, hDi, ri, fun j xs h1 h2 => ?_⟩
    rcases backP_get h1 with ⟨hj, h1'⟩ | ⟨hj, h1'⟩
    · have := List.all_eq_true.mp hno j hj
      rw [h1'] at this
      simp [isOwn] at this
    · exact nDi j xs h1' (by rw [wipe_not hj]; exact h2)
theorem own_nm {N : List Str} {vs : List Nat} : (ownOf N vs).map (·.2) = vs := by unfold ownOf; rw [List.map_map]; exact List.map_id' vs
theorem comp_ok {vs : List Nat} {tg : Bool × List Nat} {ik : IK} {ies : List E} {conds : List T} {elt : E} {scope : Scope} {tgx iterx eltx : Expr} {ifsx : List Expr} (w : WX X G k) (hB : blkC X.N X.env.scope scope (ownOf X.N vs) = true)
    (hT : ckTg X.N scope tg tgx = true) (hv : (tg.2.all fun i => vs.contains i) = true) (hns : notSet iterx = true) (hi : PI X tgx iterx (tIt X.K ik (evs G ies)))
    (hc : ∀ (s : Shared) (H : Hp) (C : Addr) (cl : List (Str × Addr)) (fp : List Addr), PTs (X.blk s H scope (compEnvC scope cl C X.env) fp) ifsx (tEvT X.K (evC G true conds)))
    (he : ∀ (s : Shared) (H : Hp) (C : Addr) (cl : List (Str × Addr)) (fp : List Addr), PE (X.blk s H scope (compEnvC scope cl C X.env) fp) eltx (tEv X.K (ev G elt))) :
    PE X (.ListComp eltx [⟨tgx, iterx, ifsx, 0⟩] scope pos) (tOwn X.K (ev G (.comp vs tg ik ies conds elt))) := by
  have key := pe_lc (pos := pos) (g := gT X.K tg) w.calm w.nd hi (blkOk_by hB) (fun s H C cl fp => tg_ok (X := X.blk s H scope (compEnvC scope cl C X.env) fp) w.calm blk_fn w.nd hT) hc he (notSet_fold hns)
  rw [own_nm] at key
  exact key.imp fun σ H Q h => comp_rd hv h
/-- name = [..] -/
theorem compS_ok {vs : List Nat} {tg : Bool × List Nat} {ik : IK} {ies : List E} {conds : List T} {elt : E} {scope : Scope} {tgx iterx eltx : Expr} {ifsx : List Expr} {i : Nat} {n : Str} {pn spos : Pos} (w : WX X G k) (hf : FnL X X.env.scope) (hB : blkC X.N X.env.scope scope (ownOf X.N vs) = true)
    (hT : ckTg X.N scope tg tgx = true) (hv : (tg.2.all fun i => vs.contains i) = true) (hns : notSet iterx = true) (hi : PI X tgx iterx (tIt X.K ik (evs G ies)))
    (hc : ∀ (s : Shared) (H : Hp) (C : Addr) (cl : List (Str × Addr)) (fp : List Addr), PTs (X.blk s H scope (compEnvC scope cl C X.env) fp) ifsx (tEvT X.K (evC G true conds)))
    (he : ∀ (s : Shared) (H : Hp) (C : Addr) (cl : List (Str × Addr)) (fp : List Addr), PE (X.blk s H scope (compEnvC scope cl C X.env) fp) eltx (tEv X.K (ev G elt)))
    (hn : ckT1 X.N X.env.scope i (.Name n pn) = true) :
    PS X (.Assign [.Name n pn] (.ListComp eltx [⟨tgx, iterx, ifsx, 0⟩] scope pos) spos) (tAsg (tOwn X.K (ev G (.comp vs tg ik ies conds elt))) (gName i)) := by
  have hp := comp_ok (pos := pos) w hB hT hv hns hi hc he
  have hn' := hn
  unfold ckT1 at hn'
  rw [Bool.and_eq_true, decide_eq_true_eq] at hn'
  obtain ⟨n1, n2⟩ := hn'
  obtain ⟨l1, l2⟩ := hf n n2
  have sw : ∃ b : Bool, swapsWith (.ListComp eltx [⟨tgx, iterx, ifsx, 0⟩] scope pos) (some (.Name n pn)) spos.line X.env = pure b ∧ (b = true → X.env.scope.names.lookup n = some .local) := by
    refine ⟨X.env.blockKind == .function && X.env.kindOf n == some .local && pn.line == pos.line && !(scope.names.any fun (m, k) => m == n && (k == .local || k == .cell)), rfl, fun h => ?_⟩
    simp only [Bool.and_eq_true, beq_iff_eq] at h
    exact h.1.1.2
  obtain ⟨b, sw1, sw2⟩ := sw
  cases b with
  | false => exact ps_set w.nd n1 l1 hp sw1 l2
  | true =>
    have key := ps_setLc (pos := pos) (g := gT X.K tg) w.calm w.nd n1 (sw2 rfl) sw1 hi (blkOk_by hB) (fun s H C cl fp => tg_ok (X := X.blk s H scope (compEnvC scope cl C X.env) fp) w.calm blk_fn w.nd hT) hc he (notSet_fold hns)
    rw [own_nm] at key
    exact key.imp fun D σ H h => comp_rd hv h
theorem comp_lst {vs : List Nat} {tg : Bool × List Nat} {ik : IK} {ies : List E} {conds : List T} {elt : E} : ∀ ρ d ρ', ev G (.comp vs tg ik ies conds elt) ρ = .ok (d, ρ') → ∃ xs, d = .lst xs := fun ρ d ρ' e => by
  unfold ev at e
  obtain ⟨⟨ds, ρ1⟩, e1, e2⟩ := Out.bind_inv e
  obtain ⟨items, e3, e4⟩ := Out.bind_inv e2
  have e4 : (if (vs.all fun v => !isOwn (getS ρ1 v)) = true then (compL (compF G vs tg ik ρ1 conds elt) items (wipeP ρ1 vs)).bind fun r => if r.1.length < lim then Out.ok (D.lst r.1, backP ρ1 r.2 vs) else Out.bad else Out.bad) = Out.ok (d, ρ') := e4
  by_cases c : (vs.all fun v => !isOwn (getS ρ1 v)) = true
  · rw [if_pos c] at e4
    obtain ⟨⟨out, ρn⟩, e5, e6⟩ := Out.bind_inv e4
    have e6 : (if out.length < lim then Out.ok (D.lst out, backP ρ1 ρn vs) else Out.bad) = Out.ok (d, ρ') := e6
    by_cases c2 : out.length < lim
    · rw [if_pos c2] at e6; cases e6; exact ⟨_, rfl⟩
    · rw [if_neg c2] at e6; cases e6
  · rw [if_neg c] at e4; cases e4
end
end Px
set_option Elab.async false
set_option linter.all false
set_option maxRecDepth 100000
set_option maxHeartbeats 2000000
namespace Px
open PySem PySem.Spec PyProof.Rows L2
section
variable {G : Sig} {k : Nat}
theorem WX.units {X : Cx} (w : WX X G k) : X.A.units + 65 < cLine := by have := w.room.un; omega
structure Snd (G : Sig) (k : Nat) (n : Nat) : Prop where
  E : ∀ (X : Cx) (e : Expr) (i : Px.E), WX X G k → ckE n X.N X.env.scope i e = true → PE X e (tEv X.K (ev G i))
  P : ∀ (X : Cx) (e : Expr) (p : P) (as : List Ar), WX X G k → ckP n X.N X.env.scope p as e = true → PE X e (tPr (freshP p) X.K (ev G (.prim p as)))
  T : ∀ (X : Cx) (e : Expr) (t : Px.T), WX X G k → ckT n X.N X.env.scope t e = true → PT X e (tEvT X.K (evT G t))
  A : ∀ (X : Cx) (e : Expr) (a : Ar), WX X G k → ckA n X.N X.env.scope a e = true → PE X e (tAr X.K (opnd G a))
  As : ∀ (X : Cx) (es : List Expr) (as : List Ar), WX X G k → ckAs n X.N X.env.scope as es = true → PA X es (tArs X.K (opnds G as)) ∧ es.all notStar = true ∧ as.length = es.length
  Es : ∀ (X : Cx) (es : List Expr) (is : List Px.E), WX X G k → ckEs n X.N X.env.scope is es = true → PA X es (tEvs X.K (evs G is)) ∧ es.all notStar = true ∧ is.length = es.length ∧
    ∀ (c : Bool) (pos : Pos), PE X (.BoolOp (if c then .And else .Or) es pos) (tEv X.K (evB G c is))
  C : ∀ (X : Cx) (es : List Expr) (ts : List Px.T), WX X G k → ckC n X.N X.env.scope ts es = true → (∀ (c : Bool) (pos : Pos), PW X (.BoolOp (if c then .And else .Or) es pos) (tEvT X.K (evC G c ts))) ∧
    (ts.length ≤ 1 → PTs X es (tEvT X.K (evC G true ts)))
  I : ∀ (X : Cx) (tg e : Expr) (ik : IK) (is : List Px.E), WX X G k → ckI n X.N X.env.scope ik is e = true → PI X tg e (tIt X.K ik (evs G is)) ∧ notSet e = true
theorem evB_nil {X : Cx} {e : Expr} {c : Bool} : PE X e (tEv X.K (evB G c [])) := ⟨fun pins s σ H Q I h => by
  obtain ⟨fm, F, ρ, d, ρ', o, e, q⟩ := h
  unfold evB at e
  cases e⟩
theorem snd_all (G : Sig) (k : Nat) : ∀ n, Snd G k n
  | 0 => by
    constructor
    · intro X e i w h; unfold ckE at h; cases h
    · intro X e p as w h; unfold ckP at h; cases h
    · intro X e i w h; unfold ckT at h; cases h
    · intro X e i w h; unfold ckA at h; cases h
    · intro X e i w h; unfold ckAs at h; cases h
    · intro X e i w h; unfold ckEs at h; cases h
    · intro X e i w h; unfold ckC at h; cases h
    · intro X t e ik i w h; unfold ckI at h; cases h
  | n + 1 => by
    have S := snd_all G k n
    constructor
    · intro X e i w h
      unfold ckE at h
      split at h
      · rename_i hn; cases hn
      · rename_i hn; cases hn; exact var_ok h
      · rename_i hn; cases hn
        refine (conB_ok h).imp fun σ H Q h' => ?_
        obtain ⟨fm, F, ρ, d, ρ', o, e1, q⟩ := h'
        unfold ev at e1
        exact ⟨fm, F, ρ, d, ρ', o, e1, q⟩
      · rename_i hn; cases hn; exact pr_ev (S.P X _ _ _ w h)
      · rename_i hn; cases hn; exact dspT_ok (S.Es X _ _ w h).1
      · rename_i hn; cases hn; exact own_ev dsp_lst (dspL_ok (S.Es X _ _ w h).1)
      · rename_i hn; cases hn; exact bop_ok ((S.Es X _ _ w h).2.2.2 true _)
      · rename_i hn; cases hn; exact bop_ok ((S.Es X _ _ w h).2.2.2 false _)
      · rename_i hn; cases hn; exact not_ok (S.E X _ _ w h)
      · rename_i hn; cases hn
        simp only [Bool.and_eq_true] at h
        exact ite_ok (S.T X _ _ w h.1.1) (S.E X _ _ w h.1.2) (S.E X _ _ w h.2)
      · rename_i hn; cases hn
        simp only [Bool.and_eq_true, decide_eq_true_eq] at h
        obtain ⟨⟨h1, h2⟩, h3⟩ := h
        subst h1
        obtain ⟨a1, a2, a3⟩ := S.As X _ _ w h3
        exact callD_ok (call_ok w h2 a2 a3 a1)
      · rename_i hn; cases hn
        simp only [Bool.and_eq_true, decide_eq_true_eq] at h
        obtain ⟨⟨⟨⟨⟨⟨h1, h2⟩, h3⟩, h4⟩, h5⟩, h6⟩, h7⟩ := h
        obtain ⟨i1, i2⟩ := S.I X _ _ _ _ w h4
        exact own_ev comp_lst (comp_ok w h1 h2 h3 i2 i1 (fun s H C cl fp => (S.C (X.blk s H _ (compEnvC _ cl C X.env) fp) _ _ (w.blk s H _ C cl fp) h6).2 h5) (fun s H C cl fp => S.E (X.blk s H _ (compEnvC _ cl C X.env) fp) _ _ (w.blk s H _ C cl fp) h7))
      · rename_i hn; cases hn
        simp only [Bool.and_eq_true, decide_eq_true_eq] at h
        obtain ⟨⟨⟨⟨⟨h1, h2⟩, h3⟩, h4⟩, hs⟩, h5⟩ := h
        subst h1 h4
        exact isi_ok w h2 h3 hs (S.A X _ _ w h5)
      · cases h
    · intro X e p as w h
      unfold ckP at h
      split at h
      · rename_i hn; cases hn
      · rename_i hn; cases hn
        simp only [Bool.and_eq_true, decide_eq_true_eq] at h
        obtain ⟨⟨h1, h2⟩, h3⟩ := h
        subst h1
        exact bin_ok (S.A X _ _ w h2) (S.A X _ _ w h3)
      · rename_i hn; cases hn; exact neg_ok (S.A X _ _ w h)
      · rename_i hn; cases hn
        simp only [Bool.and_eq_true, decide_eq_true_eq] at h
        obtain ⟨⟨⟨h1, h2⟩, h3⟩, h4⟩ := h
        subst h1
        exact cmp_ok w.units h2 (S.A X _ _ w h3) (S.A X _ _ w h4)
      · rename_i hn; cases hn
        simp only [Bool.and_eq_true] at h
        exact ix_ok h.1.1 (S.A X _ _ w h.1.2) (S.A X _ _ w h.2)
      · rename_i hn; cases hn; exact sl0_ok (S.A X _ _ w h)
      · rename_i hn; cases hn
        simp only [Bool.and_eq_true] at h
        exact sl1_ok (S.A X _ _ w h.1) (S.A X _ _ w h.2)
      · rename_i hn; cases hn
        simp only [Bool.and_eq_true] at h
        exact sl2_ok (S.A X _ _ w h.1) (S.A X _ _ w h.2)
      · rename_i hn; cases hn
        simp only [Bool.and_eq_true] at h
        exact sl3_ok (S.A X _ _ w h.1.1) (S.A X _ _ w h.1.2) (S.A X _ _ w h.2)
      · rename_i hn; cases hn
        simp only [Bool.and_eq_true, decide_eq_true_eq] at h
        obtain ⟨⟨h1, h2⟩, h3⟩ := h
        subst h1
        obtain ⟨a1, a2, a3⟩ := S.As X _ _ w h3
        exact bi_ok w h2 a2 a1
      · cases h
    · intro X e t w h
      unfold ckT at h
      split at h
      · rename_i hn; cases hn
      · rename_i hn; cases hn; exact cT_ok ((S.C X _ _ w h).1 true _)
      · rename_i hn; cases hn; exact cT_ok ((S.C X _ _ w h).1 false _)
      · rename_i hn; cases hn; exact nT_ok (S.T X _ _ w h)
      · rename_i hn; cases hn
        simp only [Bool.and_eq_true, decide_eq_true_eq] at h
        obtain ⟨⟨⟨h1, h2⟩, h3⟩, h4⟩ := h
        subst h1
        exact cmpT_ok w.units h2 (S.A X _ _ w h3) (S.A X _ _ w h4)
      · rename_i heq hn; cases heq
        simp only [Bool.and_eq_true, Bool.not_eq_true'] at h
        exact val_ok h.1 (S.A X _ _ w h.2)
      · cases h
    · intro X e a w h
      unfold ckA at h
      split at h
      · rename_i hn; cases hn
      · rename_i hn; cases hn; exact slot_ok h
      · rename_i hn; cases hn; exact ex_ok (S.E X _ _ w h)
      · cases h
    · intro X es as w h
      unfold ckAs at h
      split at h
      · rename_i hn; cases hn
      · rename_i hn; cases hn; exact ⟨as_nil, rfl, rfl⟩
      · rename_i hn; cases hn
        simp only [Bool.and_eq_true] at h
        obtain ⟨a1, a2, a3⟩ := S.As X _ _ w h.2
        exact ⟨as_cons h.1.2 (S.A X _ _ w h.1.1) a1, by rw [List.all_cons, h.1.2, a2]; rfl, by simp [a3]⟩
      · cases h
    · intro X es is w h
      unfold ckEs at h
      split at h
      · rename_i hn; cases hn
      · rename_i hn; cases hn; exact ⟨es_nil, rfl, rfl, fun c pos => evB_nil⟩
      · rename_i hn; cases hn
        simp only [Bool.and_eq_true] at h
        obtain ⟨a1, a2, a3, a4⟩ := S.Es X _ _ w h.2
        refine ⟨es_cons h.1.2 (S.E X _ _ w h.1.1) a1, by rw [List.all_cons, h.1.2, a2]; rfl, by simp [a3], fun c pos => ?_⟩
        rename_i i is e es
        cases is with
        | nil =>
          cases es with
          | nil => exact bop_one (S.E X _ _ w h.1.1)
          | cons _ _ => simp at a3
        | cons i2 is =>
          cases es with
          | nil => simp at a3
          | cons e2 es => exact bop_cons (S.E X _ _ w h.1.1) (a4 c pos)
      · cases h
    · intro X es ts w h
      unfold ckC at h
      split at h
      · rename_i hn; cases hn
      · rename_i hn; cases hn
        exact ⟨fun c pos => c_nil, fun _ => ⟨fun pins s σ H Q I h => pts_nil.run pins s σ H Q I (by
          obtain ⟨fm, F, ρ, d, ρ', o, e, q⟩ := h
          unfold evC at e
          cases e
          exact q F H o (Ex.refl F))⟩⟩
      · rename_i hn; cases hn
        simp only [Bool.and_eq_true] at h
        obtain ⟨a1, a2⟩ := S.C X _ _ w h.2
        refine ⟨fun c pos => c_cons (S.T X _ _ w h.1) (a1 c pos), fun hl => ?_⟩
        rename_i t ts e es
        cases ts with
        | cons _ _ => simp at hl
        | nil =>
          have : es = [] := by
            cases es with
            | nil => rfl
            | cons _ _ =>
              have h2 := h.2
              cases n with
              | zero => unfold ckC at h2; cases h2
              | succ n => unfold ckC at h2; cases h2
          subst this
          exact ⟨fun pins s σ H Q I h' => (pts_one (S.T X _ _ w h.1)).run pins s σ H Q I (by
            obtain ⟨fm, F, ρ, d, ρ', o, e, q⟩ := h'
            unfold evC at e
            obtain ⟨⟨b, ρ1⟩, e1, e2⟩ := Out.bind_inv e
            refine ⟨fm, F, ρ, b, ρ1, o, e1, fun F' H' o' x' => ?_⟩
            cases b with
            | true => unfold evC at e2; cases e2; exact q F' H' o' x'
            | false => cases e2; exact q F' H' o' x')⟩
      · cases h
    · intro X tg e ik is w h
      unfold ckI at h
      split at h
      · rename_i hn; cases hn
      · rename_i x p1 xs p2 hn; cases hn
        simp only [Bool.and_eq_true, decide_eq_true_eq] at h
        obtain ⟨⟨⟨h1, h2⟩, h3⟩, h4⟩ := h
        subst h1
        obtain ⟨a1, a2, a3, _⟩ := S.Es X _ _ w h4
        refine ⟨?_, rfl⟩
        match xs, h3, a1, a2, a3 with
        | [x], _, a1, a2, a3 =>
          simp only [List.all_cons, List.all_nil, Bool.and_true] at a2
          exact rng1_ok w h2 a2 a1 (by simpa using a3)
        | [x, y], _, a1, a2, a3 =>
          simp only [List.all_cons, List.all_nil, Bool.and_true, Bool.and_eq_true] at a2
          exact rng2_ok w h2 a2.1 a2.2 a1 (by simpa using a3)
      · rename_i hn; cases hn
        simp only [Bool.and_eq_true] at h
        exact ⟨seq_ok (S.E X _ _ w h.2), h.1⟩
      · rename_i hn; cases hn
        exact ⟨brw_ok h, rfl⟩
      · cases h
end
end Px
set_option Elab.async false
set_option linter.all false
set_option maxRecDepth 100000
set_option maxHeartbeats 2000000
namespace Px
open PySem PySem.Spec PyProof.Rows L2
section
variable {X : Cx} {G : Sig} {k : Nat} {x y z e : Expr} {as : List Ar} {pos : Pos}
/-! ### values of assignments and returns -/
theorem own_call_rd {K : PySem.W.Frag} {g : PEnv → Out (D × PEnv)} {σ : L2.St} {H : Hp} {Q : VK} (h : tCallS K (fun ρ => (g ρ).bind fun q => match q.1 with
    | .lst xs => .ok (.own xs, q.2)
    | _ => .bad) σ H Q) : tOwn K g σ H Q := by
  obtain ⟨fm, F, ρ, r, ρ', o, e, q⟩ := h
  obtain ⟨⟨d, ρ1⟩, e1, e2⟩ := Out.bind_inv e
  cases d <;> try (cases e2; done)
  cases e2
  exact ⟨fm, F, ρ, _, _, o, e1, fun v F' H' o' x' m => q v F' H' o' x' m⟩
theorem own_call {g : PEnv → Out (D × PEnv)} (h : PE X x (tOwn X.K g)) : PE X x (tCallS X.K fun ρ => (g ρ).bind fun q => match q.1 with
    | .lst xs => .ok (.own xs, q.2)
    | _ => .bad) := h.imp fun σ H Q h => own_call_rd h
theorem ev_call {g : PEnv → Out (D × PEnv)} (h : PE X x (tEv X.K g)) : PE X x (tCallS X.K fun ρ => (g ρ).bind fun q => .ok (.dat q.1, q.2)) := h.imp fun σ H Q h => by
  obtain ⟨fm, F, ρ, r, ρ', o, e, q⟩ := h
  obtain ⟨⟨d, ρ1⟩, e1, e2⟩ := Out.bind_inv e
  cases e2
  exact ⟨fm, F, ρ, _, _, o, e1, fun v F' H' o' x' m => q v F' H' o' x' m⟩
theorem pr_call {p : P} (h : PE X x (tPr (freshP p) X.K (ev G (.prim p as)))) : PE X x (tCallS X.K (evo G (.prim p as))) := h.imp fun σ H Q h => by
  obtain ⟨fm, F, ρ, r, ρ', o, e, q⟩ := h
  have e : ((ev G (.prim p as) ρ).bind fun q => match freshP p, q.1 with
    | true, .lst xs => Out.ok (Slot.own xs, q.2)
    | _, d => .ok (.dat d, q.2)) = .ok (r, ρ') := e
  obtain ⟨⟨d, ρ1⟩, e1, e2⟩ := Out.bind_inv e
  cases hf : freshP p with
  | false =>
    rw [hf] at e2
    cases e2
    refine ⟨fm, F, ρ, d, _, o, e1, fun F' H' o' x' => ?_⟩
    exact pres_of o' x' fun v F2 H2 o2 x2 r2 => q v F2 H2 o2 x2 r2
  | true =>
    rw [hf] at e2
    cases d with
    | lst xs =>
      cases e2
      refine ⟨fm, F, ρ, _, _, o, e1, fun F' H' o' x' => ⟨fun hh => absurd rfl (hh rfl xs), fun p vs ys hp hd r2 => ?_, fun p vs ys hp hd r2 => by cases hd⟩⟩
      cases hd
      exact q _ _ _ (o'.newH (x := .lst vs) hp) x' (o'.mine hp r2)
    | non => cases e2; exact ⟨fm, F, ρ, _, _, o, e1, fun F' H' o' x' => pres_of o' x' fun v F2 H2 o2 x2 r2 => q v F2 H2 o2 x2 r2⟩
    | bl _ => cases e2; exact ⟨fm, F, ρ, _, _, o, e1, fun F' H' o' x' => pres_of o' x' fun v F2 H2 o2 x2 r2 => q v F2 H2 o2 x2 r2⟩
    | int _ => cases e2; exact ⟨fm, F, ρ, _, _, o, e1, fun F' H' o' x' => pres_of o' x' fun v F2 H2 o2 x2 r2 => q v F2 H2 o2 x2 r2⟩
    | str _ => cases e2; exact ⟨fm, F, ρ, _, _, o, e1, fun F' H' o' x' => pres_of o' x' fun v F2 H2 o2 x2 r2 => q v F2 H2 o2 x2 r2⟩
    | tup _ => cases e2; exact ⟨fm, F, ρ, _, _, o, e1, fun F' H' o' x' => pres_of o' x' fun v F2 H2 o2 x2 r2 => q v F2 H2 o2 x2 r2⟩
theorem var_call {i : Nat} {n : Str} (h : varB X.N X.env.scope i n = true) : PE X (.Name n pos) (tCallS X.K (evo G (.var i))) :=
  (varB_ok h).imp fun σ H Q h => by
    obtain ⟨fm, F, ρ, r, ρ', k, e, q⟩ := h
    have e : (match getS ρ i with
      | some (.dat d) => Out.ok (Slot.dat d, ρ)
      | some (.own xs) => .ok (.own xs, ρ.set i none)
      | _ => .bad) = .ok (r, ρ') := e
    cases c : getS ρ i with
    | none => rw [c] at e; cases e
    | some s =>
      rw [c] at e
      cases s with
      | dat d =>
        cases e
        obtain ⟨v, h1, h2⟩ := k.slot i _ c
        exact ⟨v, h1, q v F H k (Ex.refl F) h2⟩
      | own xs =>
        cases e
        obtain ⟨v, h1, m⟩ := k.takeO c
        exact ⟨v, h1, q v F H (k.unset i) (Ex.refl F) m⟩
theorem evo_ok {n : Nat} (w : WX X G k) {i : E} (h : ckE n X.N X.env.scope i e = true) : PE X e (tCallS X.K (evo G i)) := by
  have S := snd_all G k
  cases n with
  | zero => unfold ckE at h; cases h
  | succ n =>
    have hE := (S (n + 1)).E X e i w h
    unfold ckE at h
    split at h
    · rename_i hn; cases hn
    · rename_i hn; cases hn; exact var_call h
    · exact ev_call hE
    · rename_i hn; cases hn; exact pr_call ((S n).P X _ _ _ w h)
    · exact ev_call hE
    · rename_i hn; cases hn; exact own_call (dspL_ok ((S n).Es X _ _ w h).1)
    · exact ev_call hE
    · exact ev_call hE
    · exact ev_call hE
    · exact ev_call hE
    · rename_i hn; cases hn
      simp only [Bool.and_eq_true, decide_eq_true_eq] at h
      obtain ⟨⟨h1, h2⟩, h3⟩ := h
      subst h1
      obtain ⟨a1, a2, a3⟩ := (S n).As X _ _ w h3
      exact call_ok w h2 a2 a3 a1
    · rename_i hn; cases hn
      simp only [Bool.and_eq_true, decide_eq_true_eq] at h
      obtain ⟨⟨⟨⟨⟨⟨h1, h2⟩, h3⟩, h4⟩, h5⟩, h6⟩, h7⟩ := h
      obtain ⟨i1, i2⟩ := (S n).I X _ _ _ _ w h4
      exact own_call (comp_ok w h1 h2 h3 i2 i1 (fun s H C cl fp => ((S n).C (X.blk s H _ (compEnvC _ cl C X.env) fp) _ _ (w.blk s H _ C cl fp) h6).2 h5) (fun s H C cl fp => (S n).E (X.blk s H _ (compEnvC _ cl C X.env) fp) _ _ (w.blk s H _ C cl fp) h7))
    · exact ev_call hE
    · cases h

/-! ### statements -/
def Keep (ws : List Nat) (σ σ' : L2.St) : Prop := ∀ j, j ∉ ws → σ'[j]? = σ[j]?
theorem Keep.refl {ws : List Nat} {σ : L2.St} : Keep ws σ σ := fun _ _ => rfl
theorem Keep.trans {ws : List Nat} {σ σ1 σ2 : L2.St} (a : Keep ws σ σ1) (b : Keep ws σ1 σ2) : Keep ws σ σ2 := fun j h => (b j h).trans (a j h)
theorem Keep.mono {ws us : List Nat} {σ σ1 : L2.St} (a : Keep ws σ σ1) (h : ∀ i ∈ ws, i ∈ us) : Keep us σ σ1 := fun j hj => a j fun z => hj (h j z)
def FlwEnd (K : PySem.W.Frag) (fm : Fm) (F : Hp) (ws : List Nat) (σ : L2.St) (ρ' : PEnv) (D : Ends) : Flw → Prop
  | .nx => ∀ σ' F' H', OK K fm F' ρ' σ' H' → Ex F F' → Keep ws σ σ' → D.nx σ' H'
  | .brk => ∀ σ' F' H', OK K fm F' ρ' σ' H' → Ex F F' → Keep ws σ σ' → D.bk σ' H'
  | .cnt => ∀ σ' F' H', OK K fm F' ρ' σ' H' → Ex F F' → Keep ws σ σ' → D.ct σ' H'
  | .ret s => ∀ v σ' F' H', OK K fm F' ρ' σ' H' → Ex F F' → Keep ws σ σ' → SlotRes K fm F' ρ' σ' H' v s → D.rt v H'
def tS (K : PySem.W.Frag) (ws : List Nat) (g : PEnv → Out (Flw × PEnv)) : TS := fun D σ H => ∃ fm F ρ f ρ', OK K fm F ρ σ H ∧ g ρ = .ok (f, ρ') ∧ FlwEnd K fm F ws σ ρ' D f
theorem FlwEnd.from {K : PySem.W.Frag} {fm : Fm} {F F1 : Hp} {ws us : List Nat} {σ σ1 : L2.St} {ρ' : PEnv} {D : Ends} {f : Flw} (q : FlwEnd K fm F ws σ ρ' D f) (e : Ex F F1) (kp : Keep ws σ σ1) (h : ∀ i ∈ us, i ∈ ws) : FlwEnd K fm F1 us σ1 ρ' D f := by
  cases f with
  | nx => exact fun σ' F' H' o x k' => q σ' F' H' o (e.trans x) (kp.trans (k'.mono h))
  | brk => exact fun σ' F' H' o x k' => q σ' F' H' o (e.trans x) (kp.trans (k'.mono h))
  | cnt => exact fun σ' F' H' o x k' => q σ' F' H' o (e.trans x) (kp.trans (k'.mono h))
  | ret s => exact fun v σ' F' H' o x k' r => q v σ' F' H' o (e.trans x) (kp.trans (k'.mono h)) r
theorem keep_set {i : Nat} {v : Option V} {ws : List Nat} {σ : L2.St} (h : i ∈ ws) : Keep ws σ (σ.set i v) := fun j hj => by
  rw [List.getElem?_set_ne (fun z => hj (by rw [← z]; exact h))]
/-- the slot i holds what comes -/
theorem OK.setS {K : PySem.W.Frag} {fm : Fm} {F H : Hp} {ρ : PEnv} {σ : L2.St} (o : OK K fm F ρ σ H) {i : Nat} {v : V} {s : Slot} (r : SlotRes K fm F ρ σ H v s) : OK K fm F (ρ.set i (some s)) (σ.set i (some v)) H := by
  cases s with
  | dat d => exact o.setD r
  | own xs => exact o.setO r
/-- name = e, by its reading -/
theorem set_rd {i : Nat} {x' : E} {t : TE} (ht : ∀ {σ : L2.St} {H : Hp} {Q : VK}, tCallS X.K (evo G x') σ H Q → t σ H Q) {D : Ends} {σ : L2.St} {H : Hp} (h : tS X.K [i] (ex G (.set true i x')) D σ H) : tAsg t (gName i) D σ H := by
  obtain ⟨fm, F, ρ, f, ρ', o, e, q⟩ := h
  unfold ex at e
  obtain ⟨⟨s, ρ1⟩, e1, e2⟩ := Out.bind_inv e
  cases e2
  exact ht ⟨fm, F, ρ, s, ρ1, o, e1, fun v F' H' o' x' r => q _ F' H' (o'.setS r) x' (keep_set (by simp))⟩
theorem setD_rd {i : Nat} {x' : E} {t : TE} (ht : ∀ {σ : L2.St} {H : Hp} {Q : VK}, tEv X.K (ev G x') σ H Q → t σ H Q) {D : Ends} {σ : L2.St} {H : Hp} (h : tS X.K [i] (ex G (.set false i x')) D σ H) : tAsg t (gName i) D σ H := by
  obtain ⟨fm, F, ρ, f, ρ', o, e, q⟩ := h
  unfold ex at e
  obtain ⟨⟨d, ρ1⟩, e1, e2⟩ := Out.bind_inv e
  cases e2
  exact ht ⟨fm, F, ρ, d, ρ1, o, e1, fun v F' H' o' x' r => q _ F' H' (o'.setD r) x' (keep_set (by simp))⟩
def notComp : Expr → Bool
  | .ListComp _ _ _ _ => false
  | .SetComp _ _ _ _ => false
  | .DictComp _ _ _ _ _ => false
  | _ => true
theorem notComp_sw {t : Option Expr} {l : Nat} {env : Env} (h : notComp x = true) : swapsWith x t l env = pure false := by
  cases x <;> first | rfl | (simp [notComp] at h; done)
/-- stores of tuples that the compiler doesn't swap -/
def noSwap (sc : Scope) (ts : List Expr) : Expr → Bool
  | .Tuple vs _ _ => vs.all (foldedForSure 8) || decide ((ts.filterMap fun
    | .Name id pos => if sc.names.lookup id == some .local && pos.line == (ts.head?.map (·.pos.line)).getD 0 then some id else none
    | _ => none).length ≠ ts.length)
  | _ => true
theorem noSwap_ok {ts : List Expr} {kt : Nat} {pt : Pos} (h : noSwap X.env.scope ts x = true) : swappedStores [.Tuple ts kt pt] x X.env = pure none := by
  unfold swappedStores
  cases x <;> try rfl
  rename_i vs k2 p2
  unfold noSwap at h
  simp only [Bool.or_eq_true, decide_eq_true_eq] at h
  simp only
  split
  · rfl
  · split
    · rfl
    · split
      · rfl
      · rename_i hn
        rcases h with h | h
        · rw [if_pos h]
        · exfalso
          apply hn
          simp only [Bool.or_eq_true, bne_iff_ne]
          left
          exact h
end
end Px
set_option Elab.async false
set_option linter.all false
set_option maxRecDepth 100000
set_option maxHeartbeats 2000000
namespace Px
open PySem PySem.Spec PyProof.Rows L2
def isC1 : Expr → Bool
  | .ListComp _ [⟨_, _, _, 0⟩] _ _ => true
  | _ => false
mutual
def ckS : Nat → List Str → Scope → S → Stmt → Bool
  | 0, _, _, _, _ => false
  | n + 1, N, sc, .set _ i e, .Assign [.Name x p] ex _ => ckT1 N sc i (.Name x p) && ckE n N sc e ex && (notComp ex || isC1 ex)
  | n + 1, N, sc, .upk is e, .Assign [.Tuple es _ _] ex _ => ckTs N sc is es && ckE n N sc e ex && notComp ex && noSwap sc es ex
  | n + 1, N, sc, .par _ i _ j a b, .Assign [.Tuple [.Name x px, .Name y py] _ _] (.Tuple [ax, bx] _ _) _ => decide (N[i]? = some x) && decide (N[j]? = some y) && decide (i ≠ j) && decide (sc.names.lookup x = some .local) && decide (sc.names.lookup y = some .local) &&
    decide (px.line = py.line) && decide (x ≠ y) && !([ax, bx].all (foldedForSure 8)) && !([ax, bx].all (constantsAlone 8)) && notStar ax && notStar bx && ckE n N sc a ax && ckE n N sc b bx
  | n + 1, N, sc, .aug i op e, .AugAssign (.Name x p) op' ex _ => decide (op = op') && ckT1 N sc i (.Name x p) && ckE n N sc e ex
  | n + 1, N, sc, .seti i ix e, .Assign [.Subscript (.Name x _) ixx _] ex _ => varB N sc i x && ckE n N sc ix ixx && notSlice ixx && ckE n N sc e ex && notComp ex
  | n + 1, N, sc, .app i e, .Expr (.Call (.Attribute (.Name x _) at' apos) [ex] [] cpos) _ => decide (at' = "append") && varB N sc i x && ckE n N sc e ex && notStar ex && (apos.endLine == cpos.line)
  | n + 1, N, sc, .drop e, .Expr ex _ => ckE n N sc e ex && notComp ex
  | n + 1, N, sc, .ret e, .Return (some ex) _ => ckE n N sc e ex
  | n + 1, _, _, .retN, .Return none _ => true
  | n + 1, N, sc, .ite c a b, .If cx ax bx _ => ckT n N sc c cx && ckSs n N sc a ax && ckSs n N sc b bx
  | n + 1, N, sc, .loop tg ik ies body, .For tgx iterx bodyx [] _ => ckTg N sc tg tgx && ckI n N sc ik ies iterx && ckSs n N sc body bodyx
  | n + 1, N, sc, .whil c body, .While cx bodyx [] _ => ckT n N sc c cx && ckSs n N sc body bodyx
  | n + 1, _, _, .brk, .Break _ => true
  | n + 1, _, _, .cnt, .Continue _ => true
  | n + 1, _, _, .nop, .Pass _ => true
  | n + 1, _, _, .never, _ => true
  | _, _, _, _, _ => false
def ckSs : Nat → List Str → Scope → List S → List Stmt → Bool
  | 0, _, _, _, _ => false
  | n + 1, _, _, [], [] => true
  | n + 1, N, sc, s :: ss, t :: ts => ckS n N sc s t && ckSs n N sc ss ts
  | _, _, _, _, _ => false
end
structure WS (X : Cx) (G : Sig) (k : Nat) : Prop where
  w : WX X G k
  fn : FnL X X.env.scope
  xe : X.xe = fun _ _ => False
  kd : X.env.scope.kind = .function
section
variable {X : Cx} {G : Sig} {k : Nat} {x y z e : Expr} {as : List Ar} {pos : Pos}
theorem ret_rd {i : E} {D : Ends} {σ : L2.St} {H : Hp} (h : tS X.K [] (ex G (.ret i)) D σ H) : tRet (tCallS X.K (evo G i)) D σ H := by
  obtain ⟨fm, F, ρ, f, ρ', o, e, q⟩ := h
  unfold ex at e
  obtain ⟨⟨s, ρ1⟩, e1, e2⟩ := Out.bind_inv e
  cases e2
  exact ⟨fm, F, ρ, s, ρ1, o, e1, fun v F' H' o' x' r => q v σ F' H' o' x' Keep.refl r⟩
theorem drop_rd {i : E} {D : Ends} {σ : L2.St} {H : Hp} (h : tS X.K [] (ex G (.drop i)) D σ H) : tDrop (tEv X.K (ev G i)) D σ H := by
  obtain ⟨fm, F, ρ, f, ρ', o, e, q⟩ := h
  unfold ex at e
  obtain ⟨⟨s, ρ1⟩, e1, e2⟩ := Out.bind_inv e
  cases e2
  exact ⟨fm, F, ρ, s, ρ1, o, e1, fun v F' H' o' x' r => q σ F' H' o' x' Keep.refl⟩
theorem upk_rd {is : List Nat} {i : E} {D : Ends} {σ : L2.St} {H : Hp} (h : tS X.K is (ex G (.upk is i)) D σ H) : tAsg (tEv X.K (ev G i)) (gTup X.K is.length (gTs is)) D σ H := by
  obtain ⟨fm, F, ρ, f, ρ', o, e, q⟩ := h
  unfold ex at e
  obtain ⟨⟨s, ρ1⟩, e1, e2⟩ := Out.bind_inv e
  obtain ⟨ρ2, e3, e4⟩ := Out.bind_inv e2
  cases e4
  exact ⟨fm, F, ρ, s, ρ1, o, e1, fun v F' H' o' x' r => setT_ok (t := (true, is)) o' r (Out.of_ok e3) fun σ2 o2 _ k2 => q σ2 F' H' o2 x' k2⟩
theorem evc_ok {n : Nat} (w : WX X G k) {o : Bool} {i : E} (h : ckE n X.N X.env.scope i e = true) : PE X e (tCallS X.K (evc G o i)) := by
  cases o with
  | true => exact evo_ok w h
  | false => exact ev_call ((snd_all G k n).E X e i w h)
theorem par_rd {oi oj : Bool} {i j : Nat} {a b : E} (hij : i ≠ j) {D : Ends} {σ : L2.St} {H : Hp} (h : tS X.K [i, j] (ex G (.par oi i oj j a b)) D σ H) : tPar i j (tCons (tCallS X.K (evc G oi a)) (tCons (tCallS X.K (evc G oj b)) tNil)) D σ H := by
  obtain ⟨fm, F, ρ, f, ρ', o, e, q⟩ := h
  unfold ex at e
  obtain ⟨⟨s, ρ1⟩, e1, e2⟩ := Out.bind_inv e
  obtain ⟨⟨t, ρ2⟩, e3, e4⟩ := Out.bind_inv e2
  cases e4
  have kp : ∀ v w, Keep [i, j] σ ((σ.set i v).set j w) := fun v w => (keep_set (by simp)).trans (keep_set (by simp))
  refine ⟨fm, F, ρ, s, ρ1, o, e1, fun v F1 H1 o1 x1 r1 => ?_⟩
  cases s with
  | dat d =>
    refine ⟨fm, F1, ρ1, t, ρ2, o1, e3, fun w F2 H2 o2 x2 r2 => ⟨v, w, rfl, ?_⟩⟩
    have o3 := o2.setD (i := i) (Rep.mono x2 r1)
    have r2' : SlotRes X.K fm F2 (ρ2.set i (some (.dat d))) (σ.set i (some v)) H2 w t := by
      cases t with
      | dat d2 => exact r2
      | own ys =>
        obtain ⟨p, vs, rfl, b1, b2, b3, b4, b5⟩ := r2
        refine ⟨p, vs, rfl, b1, b2, b3, b4, fun m zs hm => ?_⟩
        by_cases c : m = i
        · subst c
          have hl := (getS_some hm).1
          rw [List.length_set] at hl
          rw [getS_set hl, if_pos rfl] at hm
          cases hm
        · rw [getS_set_ne c] at hm
          rw [List.getElem?_set_ne (Ne.symm c)]
          exact b5 m zs hm
    exact q _ F2 H2 (o3.setS (i := j) r2') (x1.trans x2) (kp _ _)
  | own xs =>
    obtain ⟨p, vs, rfl, b1, b2, b3, b4, b5⟩ := r1
    refine ⟨fm.keep p (.lst vs), F1, ρ1, t, ρ2, o1.keep b2 b3 b5, e3, fun w F2 H2 o2 x2 r2 => ⟨.ref p, w, rfl, ?_⟩⟩
    obtain ⟨o3, f3, h3, n3⟩ := o2.unkeep b1
    have m1 : Mine X.K fm F2 ρ2 σ H2 (.ref p) xs := ⟨p, vs, rfl, b1, f3, h3, b4.mono x2, n3⟩
    have o4 := o3.setO (i := i) m1
    have r2' : SlotRes X.K fm F2 (ρ2.set i (some (.own xs))) (σ.set i (some (.ref p))) H2 w t := by
      cases t with
      | dat d2 => exact r2
      | own ys =>
        obtain ⟨p2, ws, rfl, c1, c2, c3, c4, c5⟩ := r2
        have hne : p2 ≠ p := fun z => by
          have c1' : L2.upd fm.B p (.lst vs) p2 = none := c1
          rw [z, upd_same] at c1'; cases c1'
        have c1' : L2.upd fm.B p (.lst vs) p2 = none := c1
        rw [upd_ne hne] at c1'
        refine ⟨p2, ws, rfl, c1', c2, c3, c4, fun m zs hm => ?_⟩
        by_cases c : m = i
        · subst c
          have hl := (getS_some hm).1
          rw [List.length_set] at hl
          rw [List.getElem?_set_self (by rw [← o3.len]; exact hl)]
          intro z; cases z; exact hne rfl
        · rw [getS_set_ne c] at hm
          rw [List.getElem?_set_ne (Ne.symm c)]
          exact c5 m zs hm
    exact q _ F2 H2 (o4.setS (i := j) r2') (x1.trans x2) (kp _ _)
def rAug (K : PySem.W.Frag) (op : Operator) : TIp := fun x y H Q => ∃ F a b d, Rep K F x a ∧ Rep K F y b ∧ augF op a b = some d ∧ ∀ v, Rep K F v d → Q v H
theorem ip_aug (op : Operator) : PIp X op (rAug X.K op) := by
  intro pins s σ H x y v u Q I rx ry h
  obtain ⟨F, a, b, d, ha, hb, hd, q⟩ := h
  unfold augF at hd
  split at hd
  · cases ha; cases hb
    cases op <;> simp only at hd <;> try (cases hd; done)
    · cases hd; exact iop_add pins s σ H _ _ v u Q I rx ry ⟨_, _, rfl, rfl, q _ (.int _)⟩
    · cases hd; exact iop_sub pins s σ H _ _ v u Q I rx ry ⟨_, _, rfl, rfl, q _ (.int _)⟩
    · split at hd
      · rename_i hc
        cases hd
        obtain ⟨t, rfl⟩ := rx
        obtain ⟨t', rfl⟩ := ry
        exact imul_int (show EP X pins σ Q _ _ from ⟨.int _, H, I.tok _, ⟨_, rfl⟩, q _ (.int _)⟩) (CMulW.ok hc)
      · cases hd
    · split at hd
      · rename_i hc; cases hd; exact iop_mod pins s σ H _ _ v u Q I rx ry ⟨_, _, rfl, rfl, hc, q _ (.int _)⟩
      · cases hd
    · split at hd
      · rename_i hc; cases hd; exact iop_shr pins s σ H _ _ v u Q I rx ry ⟨_, _, rfl, rfl, hc, q _ (.int _)⟩
      · cases hd
    · split at hd
      · rename_i hc; cases hd; exact iop_fdivW pins s σ H _ _ v u Q I rx ry ⟨_, _, rfl, rfl, hc, q _ (.int _)⟩
      · cases hd
  · cases hd
theorem aug_rd {i : Nat} {op : Operator} {a : E} {D : Ends} {σ : L2.St} {H : Hp} (h : tS X.K [i] (ex G (.aug i op a)) D σ H) : tAug i (tEv X.K (ev G a)) (rAug X.K op) D σ H := by
  obtain ⟨fm, F, ρ, f, ρ', o, e, q⟩ := h
  unfold ex at e
  split at e
  · rename_i d hs
    obtain ⟨⟨t, ρ1⟩, e1, e2⟩ := Out.bind_inv e
    obtain ⟨z, e3, e4⟩ := Out.bind_inv e2
    cases e4
    obtain ⟨v, h1, h2⟩ := o.slot i _ hs
    exact ⟨v, h1, fm, F, ρ, t, ρ1, o, e1, fun w F1 H1 o1 x1 r1 => ⟨F1, d, t, z, Rep.mono x1 h2, r1, Out.of_ok e3, fun v' r' => q _ F1 H1 (o1.setD r') x1 (keep_set (by simp))⟩⟩
  · cases e
theorem mine_of {K : PySem.W.Frag} {fm : Fm} {F H : Hp} {ρ : PEnv} {σ : L2.St} (o : OK K fm F ρ σ H) {i : Nat} {xs : List D} (h : getS ρ i = some (.own xs)) {v : V} (hv : σ[i]? = some (some v)) : ∃ p vs, v = .ref p ∧ fm.B p = none ∧ F p = none ∧ H p = some (.lst vs) ∧ RepAll K F vs xs ∧
    ∀ j ys, j ≠ i → getS ρ j = some (.own ys) → σ[j]? ≠ some (some (.ref p)) := by
  obtain ⟨w, h1, p, vs, rfl, b1, b2, b3, b4⟩ := o.slot i _ h
  rw [hv] at h1; cases h1
  exact ⟨p, vs, rfl, b1, b2, b3, b4, fun j ys hj e => by rw [← hv]; exact o.inj j i ys xs hj e h⟩
/-- a list of our own has changed -/
theorem OK.chgS {K : PySem.W.Frag} {fm : Fm} {F H : Hp} {ρ : PEnv} {σ : L2.St} (o : OK K fm F ρ σ H) {i : Nat} {p : Addr} {vs : List V} {xs ys : List D} (h : getS ρ i = some (.own ys)) (hv : σ[i]? = some (some (.ref p))) (b1 : fm.B p = none) (b2 : F p = none) (r : RepAll K F vs xs)
    (hn : ∀ j zs, j ≠ i → getS ρ j = some (.own zs) → σ[j]? ≠ some (some (.ref p))) : OK K fm F (ρ.set i (some (.own xs))) σ (L2.upd H p (.lst vs)) := by
  have o1 : OK K fm F (ρ.set i none) σ (L2.upd H p (.lst vs)) := (o.unset i).chg b1 b2 fun j zs e => by
    obtain ⟨c, e⟩ := getS_set_none e
    exact hn j zs c e
  have m : Mine K fm F (ρ.set i none) σ (L2.upd H p (.lst vs)) (.ref p) xs := ⟨p, vs, rfl, b1, b2, upd_same, r, fun j zs e => by
    obtain ⟨c, e⟩ := getS_set_none e
    exact hn j zs c e⟩
  have o2 := o1.setO (i := i) m
  have hσ : σ.set i (some (V.ref p)) = σ := by
    obtain ⟨hlt, he⟩ := List.getElem?_eq_some_iff.mp hv
    rw [← he]; exact List.set_getElem_self hlt
  rw [hσ] at o2
  rwa [List.set_set] at o2
theorem isOwn_some {s : Option Slot} (h : isOwn s = true) : ∃ xs, s = some (.own xs) := by
  unfold isOwn at h
  split at h
  · exact ⟨_, rfl⟩
  · cases h
theorem seti_rd {i : Nat} {a b : E} {D : Ends} {σ : L2.St} {H : Hp} (h : tS X.K [] (ex G (.seti i a b)) D σ H) : tAsg (tEv X.K (ev G b)) (gSub (tVar i) (tEv X.K (ev G a)) rSetL) D σ H := by
  obtain ⟨fm, F, ρ, f, ρ', o, e, q⟩ := h
  unfold ex at e
  obtain ⟨⟨t, ρ1⟩, e1, e2⟩ := Out.bind_inv e
  split at e2
  · rename_i ho
    obtain ⟨xs0, hx0⟩ := isOwn_some ho
    obtain ⟨⟨u, ρ2⟩, e3, e4⟩ := Out.bind_inv e2
    split at e4
    · rename_i xs kk hs hu
      have hu' : u = .int kk := hu
      subst hu'
      obtain ⟨ys, e5, e6⟩ := Out.bind_inv e4
      cases e6
      have e5' := Out.of_ok e5
      unfold setAt at e5'
      simp only [Option.map_eq_some_iff] at e5'
      obtain ⟨j, hj, rfl⟩ := e5'
      refine ⟨fm, F, ρ, t, ρ1, o, e1, fun w F1 H1 o1 x1 r1 => ?_⟩
      obtain ⟨v, hv, _⟩ := o1.slot i _ hx0
      refine ⟨v, hv, fm, F1, ρ1, _, ρ2, o1, e3, fun w2 F2 H2 o2 x2 r2 => ?_⟩
      cases r2
      obtain ⟨p, vs, rfl, b1, b2, b3, b4, b5⟩ := mine_of o2 hs hv
      refine ⟨p, vs, kk, j, rfl, rfl, b3, by rw [b4.length]; exact hj, ?_⟩
      exact q σ F2 _ (o2.chgS hs hv b1 b2 (b4.set j (r1.mono x2)) b5) (x1.trans x2) Keep.refl
    · cases e4
  · cases e2
theorem app_rd {i : Nat} {a : E} {D : Ends} {σ : L2.St} {H : Hp} (h : tS X.K [] (ex G (.app i a)) D σ H) : tDrop (tBM X.K "list" rAppend (tVar i) (tCons (tEv X.K (ev G a)) tNil)) D σ H := by
  obtain ⟨fm, F, ρ, f, ρ', o, e, q⟩ := h
  unfold ex at e
  split at e
  · rename_i ho
    obtain ⟨xs0, hx0⟩ := isOwn_some ho
    obtain ⟨⟨t, ρ1⟩, e1, e2⟩ := Out.bind_inv e
    split at e2
    · rename_i xs hs
      split at e2
      · rename_i hlen
        cases e2
        obtain ⟨v, hv, p, vs, rfl, b1, b2, b3, b4⟩ := o.slot i _ hx0
        refine ⟨_, hv, .inl ⟨rfl, vs, SqL.of b3⟩, fm, F, ρ, t, ρ1, o, e1, fun w F1 H1 o1 x1 r1 => ?_⟩
        obtain ⟨p', vs', hp', c1, c2, c3, c4, c5⟩ := mine_of o1 hs hv
        cases hp'
        refine ⟨p, vs', w, rfl, rfl, c3, by rw [c4.length, ← lim_eq]; exact hlen, ?_⟩
        exact q σ F1 _ (o1.chgS hs hv c1 c2 (c4.app (.one r1)) c5) x1 Keep.refl
      · cases e2
    · cases e2
  · cases e
/-! ### blocks, loops -/
theorem nil_rd {D : Ends} {σ : L2.St} {H : Hp} (h : tS X.K [] (exs G []) D σ H) : tNext D σ H := by
  obtain ⟨fm, F, ρ, f, ρ', o, e, q⟩ := h
  unfold exs at e
  cases e
  exact q σ F H o (Ex.refl F) Keep.refl
theorem cons_rd {s : S} {ss : List S} {D : Ends} {σ : L2.St} {H : Hp} (h : tS X.K (wrs (s :: ss)) (exs G (s :: ss)) D σ H) : tSeq (tS X.K (wr s) (ex G s)) (tS X.K (wrs ss) (exs G ss)) D σ H := by
  obtain ⟨fm, F, ρ, f, ρ', o, e, q⟩ := h
  unfold exs at e
  obtain ⟨⟨f1, ρ1⟩, e1, e2⟩ := Out.bind_inv e
  have m1 : ∀ i ∈ wr s, i ∈ wrs (s :: ss) := fun i hi => by unfold wrs; exact List.mem_append_left _ hi
  have m2 : ∀ i ∈ wrs ss, i ∈ wrs (s :: ss) := fun i hi => by unfold wrs; exact List.mem_append_right _ hi
  refine ⟨fm, F, ρ, f1, ρ1, o, e1, ?_⟩
  cases f1 with
  | nx => exact fun σ' F' H' o' x' k' => ⟨fm, F', ρ1, f, ρ', o', e2, q.from x' (k'.mono m1) m2⟩
  | brk => cases e2; exact q.from (Ex.refl F) Keep.refl m1
  | cnt => cases e2; exact q.from (Ex.refl F) Keep.refl m1
  | ret s => cases e2; exact q.from (Ex.refl F) Keep.refl m1
theorem ite_rd {c : T} {a b : List S} {D : Ends} {σ : L2.St} {H : Hp} (h : tS X.K (wr (.ite c a b)) (ex G (.ite c a b)) D σ H) : tIfS (tEvT X.K (evT G c)) (tS X.K (wrs a) (exs G a)) (tS X.K (wrs b) (exs G b)) D σ H := by
  obtain ⟨fm, F, ρ, f, ρ', o, e, q⟩ := h
  unfold ex at e
  obtain ⟨⟨t, ρ1⟩, e1, e2⟩ := Out.bind_inv e
  have m1 : ∀ i ∈ wrs a, i ∈ wr (.ite c a b) := fun i hi => by unfold wr; exact List.mem_append_left _ hi
  have m2 : ∀ i ∈ wrs b, i ∈ wr (.ite c a b) := fun i hi => by unfold wr; exact List.mem_append_right _ hi
  refine ⟨fm, F, ρ, t, ρ1, o, e1, fun F' H' o' x' => ?_⟩
  cases t with
  | true => rw [if_pos rfl]; exact ⟨fm, F', ρ1, f, ρ', o', e2, q.from x' Keep.refl m1⟩
  | false => rw [if_neg Bool.false_ne_true]; exact ⟨fm, F', ρ1, f, ρ', o', e2, q.from x' Keep.refl m2⟩
theorem whil_rd {c : T} {b : List S} {D : Ends} {σ : L2.St} {H : Hp} (h : tS X.K (wr (.whil c b)) (ex G (.whil c b)) D σ H) : tWhile (tEvT X.K (evT G c)) (tS X.K (wrs b) (exs G b)) D σ H := by
  obtain ⟨fm, F, ρ, f, ρ', o, e, q⟩ := h
  unfold ex at e
  have hw : wr (.whil c b) = wrs b := by unfold wr; rfl
  rw [hw] at q
  refine ⟨fun m σ' H' => ∃ F' ρi, OK X.K fm F' ρi σ' H' ∧ Ex F F' ∧ Keep (wrs b) σ σ' ∧ whileL (evT G c) (exs G b) m ρi = .ok (f, ρ'), ⟨wlim, F, ρ, o, Ex.refl F, Keep.refl, e⟩, ?_⟩
  rintro m σ1 H1 ⟨F1, ρi, o1, x1, k1, e1⟩
  cases m with
  | zero => unfold whileL at e1; cases e1
  | succ m =>
    unfold whileL at e1
    obtain ⟨⟨t, ρ1⟩, e2, e3⟩ := Out.bind_inv e1
    refine ⟨fm, F1, ρi, t, ρ1, o1, e2, fun F2 H2 o2 x2 => ?_⟩
    cases t with
    | false =>
      cases e3
      rw [if_neg Bool.false_ne_true]
      exact q σ1 F2 H2 o2 (x1.trans x2) k1
    | true =>
      obtain ⟨⟨fb, ρ2⟩, e4, e5⟩ := Out.bind_inv e3
      rw [if_pos rfl]
      refine ⟨fun σ' H' => ∃ F' ρi, OK X.K fm F' ρi σ' H' ∧ Ex F F' ∧ Keep (wrs b) σ σ' ∧ whileL (evT G c) (exs G b) m ρi = .ok (f, ρ'), fun σ' H' hN => ⟨m, by omega, hN⟩, fm, F2, ρ1, fb, ρ2, o2, e4, ?_⟩
      cases fb with
      | nx => exact fun σ' F' H' o' x' k' => ⟨F', ρ2, o', (x1.trans x2).trans x', k1.trans k', e5⟩
      | cnt => exact fun σ' F' H' o' x' k' => ⟨F', ρ2, o', (x1.trans x2).trans x', k1.trans k', e5⟩
      | brk => cases e5; exact fun σ' F' H' o' x' k' => q σ' F' H' o' ((x1.trans x2).trans x') (k1.trans k')
      | ret s => cases e5; exact fun v σ' F' H' o' x' k' r => q v σ' F' H' o' ((x1.trans x2).trans x') (k1.trans k') r
theorem loop_rd {tg : Bool × List Nat} {ik : IK} {ies : List E} {b : List S} {D : Ends} {σ : L2.St} {H : Hp} (h : tS X.K (wr (.loop tg ik ies b)) (ex G (.loop tg ik ies b)) D σ H) : tFor (tIt X.K ik (evs G ies)) (gT X.K tg) (tS X.K (wrs b) (exs G b)) D σ H := by
  obtain ⟨fm, F, ρ, f, ρ', o, e, q⟩ := h
  unfold ex at e
  obtain ⟨⟨ds, ρ1⟩, e1, e2⟩ := Out.bind_inv e
  obtain ⟨items, e3, e4⟩ := Out.bind_inv e2
  have hw : wr (.loop tg ik ies b) = tg.2 ++ wrs b := by unfold wr; rfl
  rw [hw] at q
  split at e4
  · rename_i hfree
    have hbr : ∀ i, ik = .brw i → i ∉ tg.2 ++ wrs b := fun i hi => by
      subst hi
      unfold freeB at hfree
      simpa using hfree
    refine ⟨fm, F, ρ, ds, ρ1, items, o, e1, Out.of_ok e3, fun J F1 H1 o1 x1 feed => ?_⟩
    refine ⟨fun i m σ' H' => ∃ F' ρi, m = items.length - i ∧ i ≤ items.length ∧ OK X.K fm F' ρi σ' H' ∧ Ex F1 F' ∧ Keep (tg.2 ++ wrs b) σ σ' ∧ (∀ j, ik = .brw j → getS ρi j = getS ρ1 j) ∧
      forL (fun x ρ1_1 => (Out.of (setT ρ1_1 tg x)).bind fun ρ2 => (exs G b ρ2).bind fun r => if sameB ik ρ1 r.2 = true then .ok r else .bad) (items.drop i) ρi = .ok (f, ρ'),
      ⟨items.length, F1, ρ1, by simp, Nat.zero_le _, o1, Ex.refl F1, Keep.refl, fun _ _ => rfl, by simpa using e4⟩, ?_⟩
    rintro i m σ2 H2 ⟨F2, ρi, rfl, hi, o2, x2, k2, b2, e5⟩
    have fd := feed fm F2 ρi σ2 H2 o2 x2 (fun j hj => ⟨b2 j hj, k2 j (hbr j hj)⟩)
    by_cases hlt : i < items.length
    · right
      obtain ⟨g1, g2⟩ := fd.1 i items[i] (List.getElem?_eq_getElem hlt)
      have hdrop : items.drop i = items[i] :: items.drop (i + 1) := List.drop_eq_getElem_cons hlt
      rw [hdrop] at e5
      unfold forL at e5
      obtain ⟨⟨fb, ρ3⟩, e6, e7⟩ := Out.bind_inv e5
      obtain ⟨ρ4, e8, e9⟩ := Out.bind_inv e6
      obtain ⟨⟨fb', ρ5⟩, e10, e11⟩ := Out.bind_inv e9
      split at e11
      · rename_i hsame
        cases e11
        refine ⟨g1, fun σ' H' => ∃ F' ρi, i + 1 ≤ items.length ∧ OK X.K fm F' ρi σ' H' ∧ Ex F1 F' ∧ Keep (tg.2 ++ wrs b) σ σ' ∧ (∀ j, ik = .brw j → getS ρi j = getS ρ1 j) ∧
          forL (fun x ρ1_1 => (Out.of (setT ρ1_1 tg x)).bind fun ρ2 => (exs G b ρ2).bind fun r => if sameB ik ρ1 r.2 = true then .ok r else .bad) (items.drop (i + 1)) ρi = .ok (f, ρ'),
          fun σ' H' ⟨F', ρi', n1, n2⟩ => ⟨items.length - (i + 1), by omega, F', ρi', rfl, n1, n2⟩, fun x H3 hy => ?_⟩
        obtain ⟨eH, rx⟩ := g2 x H3 hy
        subst eH
        refine setT_ok o2 rx (Out.of_ok e8) fun σ3 o3 _ k3 => ?_
        have k3' : Keep (tg.2 ++ wrs b) σ σ3 := k2.trans fun j hj => k3 j fun z => hj (List.mem_append_left _ z)
        have mb : ∀ j ∈ wrs b, j ∈ tg.2 ++ wrs b := fun j hj => List.mem_append_right _ hj
        refine ⟨fm, F2, ρ4, fb, ρ3, o3, e10, ?_⟩
        cases fb with
        | nx => exact fun σ' F' H' o' x' k' => ⟨F', ρ3, hlt, o', x2.trans x', k3'.trans (k'.mono mb), fun j hj => same_ok hsame j hj, e7⟩
        | cnt => exact fun σ' F' H' o' x' k' => ⟨F', ρ3, hlt, o', x2.trans x', k3'.trans (k'.mono mb), fun j hj => same_ok hsame j hj, e7⟩
        | brk => cases e7; exact fun σ' F' H' o' x' k' => q σ' F' H' o' ((x1.trans x2).trans x') (k3'.trans (k'.mono mb))
        | ret s => cases e7; exact fun v σ' F' H' o' x' k' r => q v σ' F' H' o' ((x1.trans x2).trans x') (k3'.trans (k'.mono mb)) r
      · cases e11
    · left
      have hie : i = items.length := by omega
      subst hie
      rw [List.drop_length] at e5
      unfold forL at e5
      cases e5
      exact ⟨fd.2 _ (Nat.le_refl _), q σ2 F2 H2 o2 (x1.trans x2) k2⟩
  · cases e4
end
end Px
set_option Elab.async false
set_option linter.all false
set_option maxRecDepth 100000
set_option maxHeartbeats 2000000
namespace Px
open PySem PySem.Spec PyProof.Rows L2
section
variable {X : Cx} {G : Sig} {k : Nat} {x y z e : Expr} {as : List Ar} {pos : Pos}
theorem notSlice_asg {i : Expr} (h : notSlice i = true) : ∀ v, assign (.Subscript x i pos) X.env v = (do
      let ov ← holding [v] (eval x X.env)
      let iv ← holding [v, ov] (eval i X.env)
      standAt pos
      holding [v, ov, iv] (setItem ov iv v)
      release [v, ov, iv] []) := by
  intro v
  cases i <;> first | rfl | (simp [notSlice] at h; done)
theorem notComp_sws {t : Expr} {l : Nat} {env : Env} (h : notComp x = true) : swapsWithSole [t] x l env = pure false := notComp_sw h
theorem ckT1_inv {N : List Str} {sc : Scope} {i : Nat} {n : Str} {p : Pos} (h : ckT1 N sc i (.Name n p) = true) : N[i]? = some n ∧ locB sc n = true := by
  unfold ckT1 at h
  rw [Bool.and_eq_true, decide_eq_true_eq] at h
  exact h
theorem swap_two {n m : Str} {px py pt p2 : Pos} {kt k2 : Nat} {ax bx : Expr} (hb : X.env.scope.kind = .function) (hx : X.env.scope.names.lookup n = some .local) (hy : X.env.scope.names.lookup m = some .local) (hl : px.line = py.line) (hne : n ≠ m)
    (h1 : ([ax, bx].all (foldedForSure 8)) = false) (h2 : ([ax, bx].all (constantsAlone 8)) = false) (s1 : notStar ax = true) (s2 : notStar bx = true) :
    swappedStores [.Tuple [.Name n px, .Name m py] kt pt] (.Tuple [ax, bx] k2 p2) X.env = pure (some [n, m]) := by
  have kb : X.env.blockKind = .function := by unfold Env.blockKind; rw [hb]; rfl
  have kx : X.env.kindOf n = some .local := hx
  have ky : X.env.kindOf m = some .local := hy
  have er : ([n, m] : List Str).eraseDups.length = 2 := by
    simp [List.eraseDups_cons, hne, Ne.symm hne]
  unfold swappedStores
  simp only [kb, h1, h2]
  simp [Expr.pos, hl, List.filterMap_cons, kx, ky, er]
  intro hh
  exfalso
  rcases hh with hh | hh
  · cases ax <;> first | (cases hh; done) | (simp [notStar] at s1; done)
  · cases bx <;> first | (cases hh; done) | (simp [notStar] at s2; done)
theorem ckP_comp {n : Nat} {N : List Str} {sc scope : Scope} {p : P} {as : List Ar} {eltx : Expr} {gs : List Comprehension} : ckP n N sc p as (.ListComp eltx gs scope pos) = false := by
  cases n with
  | zero => rfl
  | succ n =>
    unfold ckP
    split <;> first | rfl | (simp_all; done)
theorem ckE_comp {n : Nat} {N : List Str} {sc scope : Scope} {i : E} {eltx tgx iterx : Expr} {ifsx : List Expr} (h : ckE (n + 1) N sc i (.ListComp eltx [⟨tgx, iterx, ifsx, 0⟩] scope pos) = true) :
    ∃ vs tg ik ies conds elt, i = .comp vs tg ik ies conds elt ∧ blkC N sc scope (ownOf N vs) = true ∧ ckTg N scope tg tgx = true ∧ (tg.2.all fun i => vs.contains i) = true ∧ ckI n N sc ik ies iterx = true ∧ conds.length ≤ 1 ∧ ckC n N (relS scope sc) conds ifsx = true ∧ ckE n N (relS scope sc) elt eltx = true := by
  unfold ckE at h
  split at h
  case h_12 =>
    rename_i vs tg ik ies conds elt e2 t2 i2 f2 sc2 p2 hn h2
    cases h2
    cases hn
    simp only [Bool.and_eq_true, decide_eq_true_eq] at h
    obtain ⟨⟨⟨⟨⟨⟨h1, h2⟩, h3⟩, h4⟩, h5⟩, h6⟩, h7⟩ := h
    exact ⟨_, _, _, _, _, _, rfl, h1, h2, h3, h4, h5, h6, h7⟩
  case h_4 =>
    rw [ckP_comp] at h
    cases h
  all_goals (first | (rename_i h1 h2; cases h2; done) | (rename_i h2; cases h2; done) | (cases h; done))
theorem WS.own (w : WS X G k) : PassesOwn (model X.prog X.w) X.A X.env X.xe := by rw [w.xe]; exact PassesOwn.never
theorem snd_stmt (G : Sig) (k : Nat) : ∀ n, (∀ (X : Cx) (s : S) (st : Stmt), WS X G k → ckS n X.N X.env.scope s st = true → PS X st (tS X.K (wr s) (ex G s))) ∧
    (∀ (X : Cx) (ss : List S) (sts : List Stmt), WS X G k → ckSs n X.N X.env.scope ss sts = true → PSs X sts (tS X.K (wrs ss) (exs G ss)))
  | 0 => by
    constructor
    · intro X s st w h; unfold ckS at h; cases h
    · intro X s st w h; unfold ckSs at h; cases h
  | n + 1 => by
    obtain ⟨S1, S2⟩ := snd_stmt G k n
    have E := snd_all G k n
    constructor
    · intro X s st w h
      unfold ckS at h
      split at h
      · rename_i hn; cases hn
      · rename_i own i e nm p ex pos hn; cases hn
        simp only [Bool.and_eq_true, Bool.or_eq_true] at h
        obtain ⟨⟨h1, h2⟩, h3⟩ := h
        obtain ⟨t1, t2⟩ := ckT1_inv h1
        obtain ⟨l1, l2⟩ := w.fn nm t2
        have hw : wr (.set own i e) = [i] := by unfold wr; rfl
        rw [hw]
        by_cases hc : notComp ex = true
        · cases own with
          | true => exact (ps_set w.w.nd t1 l1 (evo_ok w.w h2) (notComp_sw hc) l2).imp fun D σ H h => set_rd (fun h => h) h
          | false => exact (ps_set w.w.nd t1 l1 (E.E X _ _ w.w h2) (notComp_sw hc) l2).imp fun D σ H h => setD_rd (fun h => h) h
        · have h3' : isC1 ex = true := by
            rcases h3 with h3 | h3
            · exact absurd h3 hc
            · exact h3
          unfold isC1 at h3'
          split at h3'
          · cases n with
            | zero => unfold ckE at h2; cases h2
            | succ n =>
              have E' := snd_all G k n
              obtain ⟨vs, tg, ik, ies, conds, elt, rfl, c1, c2, c3, c4, c5, c6, c7⟩ := ckE_comp h2
              obtain ⟨i1, i2⟩ := E'.I X _ _ _ _ w.w c4
              have key := fun cp sp => compS_ok (i := i) (n := nm) (pn := p) (pos := cp) (spos := sp) w.w w.fn c1 c2 c3 i2 i1 (fun s H C cl fp => (E'.C (X.blk s H _ (compEnvC _ cl C X.env) fp) _ _ (w.w.blk s H _ C cl fp) c6).2 c5) (fun s H C cl fp => E'.E (X.blk s H _ (compEnvC _ cl C X.env) fp) _ _ (w.w.blk s H _ C cl fp) c7) h1
              cases own with
              | true => exact (key _ _).imp fun D σ H h => set_rd own_call_rd h
              | false => exact (key _ _).imp fun D σ H h => setD_rd (own_ev_rd comp_lst) h
          · cases h3'
      · rename_i is e es kt pt ex pos hn; cases hn
        simp only [Bool.and_eq_true] at h
        obtain ⟨⟨⟨h1, h2⟩, h3⟩, h4⟩ := h
        obtain ⟨g1, g2, g3⟩ := ts_ok w.fn w.w.nd h1
        have hw : wr (.upk is e) = is := by unfold wr; rfl
        rw [hw]
        exact (ps_asg (E.E X _ _ w.w h2) (pg_tup w.w.calm g1 g2 g3) (notComp_sws h3) (noSwap_ok h4) rfl).imp fun D σ H h => upk_rd h
      · rename_i oi i oj j a b n1 px n2 py kt pt ax bx k2 pt2 pos hn; cases hn
        simp only [Bool.and_eq_true, decide_eq_true_eq, Bool.not_eq_true'] at h
        obtain ⟨⟨⟨⟨⟨⟨⟨⟨⟨⟨⟨⟨h1, h2⟩, h3⟩, h4⟩, h5⟩, h6⟩, h7⟩, h8⟩, h9⟩, h10⟩, h11⟩, h12⟩, h13⟩ := h
        have hw : wr (.par oi i oj j a b) = [i, j] := by unfold wr; rfl
        rw [hw]
        exact (ps_par w.w.calm w.w.nd h1 h2 h3 h4 h5 (pa_cons (evc_ok w.w h12) (pa_cons (evc_ok w.w h13) pa_nil (star_cons h11)) (star_cons h10)) (swap_two w.kd h4 h5 h6 h7 h8 h9 h10 h11) rfl).imp fun D σ H h => par_rd h3 h
      · rename_i i op e nm p op' ex pos hn; cases hn
        simp only [Bool.and_eq_true, decide_eq_true_eq] at h
        obtain ⟨⟨h1, h2⟩, h3⟩ := h
        subst h1
        obtain ⟨t1, t2⟩ := ckT1_inv h2
        obtain ⟨l1, l2⟩ := w.fn nm t2
        have hw : wr (.aug i op e) = [i] := by unfold wr; rfl
        rw [hw]
        exact (ps_aug w.w.nd t1 l1 (E.E X _ _ w.w h3) (ip_aug op) l2).imp fun D σ H h => aug_rd h
      · rename_i i ix e nm p ixx ps ex pos hn; cases hn
        simp only [Bool.and_eq_true] at h
        obtain ⟨⟨⟨⟨h1, h2⟩, h3⟩, h4⟩, h5⟩ := h
        have hw : wr (.seti i ix e) = [] := by unfold wr; rfl
        rw [hw]
        exact (ps_asg (E.E X _ _ w.w h4) (pg_sub (varB_ok h1) (E.E X _ _ w.w h2) set_list (notSlice_asg h3)) (notComp_sws h5) rfl rfl).imp fun D σ H h => seti_rd h
      · rename_i i e nm p at' apos ex cpos pos hn; cases hn
        simp only [Bool.and_eq_true, decide_eq_true_eq] at h
        obtain ⟨⟨⟨⟨h1, h2⟩, h3⟩, h4⟩, h5⟩ := h
        subst h1
        have hw : wr (.app i e) = [] := by unfold wr; rfl
        rw [hw]
        exact (ps_expr (pe_bm PySem.F.plainAttrs_list PySem.F.slot_list_append PySem.F.type_list_append mt_append (varB_ok h2) (pa_cons (E.E X _ _ w.w h3) pa_nil (star_cons h4)) rfl (by rw [star_cons h4]; rfl) h5 (star_cons h4)) rfl).imp fun D σ H h => app_rd h
      · rename_i hn; cases hn
        simp only [Bool.and_eq_true] at h
        have hw : ∀ e, wr (.drop e) = [] := fun e => by unfold wr; rfl
        rw [hw]
        exact (ps_expr (E.E X _ _ w.w h.1) (notComp_sw h.2)).imp fun D σ H h => drop_rd h
      · rename_i hn; cases hn
        have hw : ∀ e, wr (.ret e) = [] := fun e => by unfold wr; rfl
        rw [hw]
        exact (ps_ret (evo_ok w.w h)).imp fun D σ H h => ret_rd h
      · refine ps_retN.imp fun D σ H h => ?_
        obtain ⟨fm, F, ρ, f, ρ', o, e, q⟩ := h
        unfold ex at e
        cases e
        exact q .non σ F H o (Ex.refl F) Keep.refl .non
      · rename_i hn; cases hn
        simp only [Bool.and_eq_true] at h
        exact (ps_if (E.T X _ _ w.w h.1.1) (S2 X _ _ w h.1.2) (S2 X _ _ w h.2)).imp fun D σ H h => ite_rd h
      · rename_i hn; cases hn
        simp only [Bool.and_eq_true] at h
        exact (ps_for w.own w.w.calm (E.I X _ _ _ _ w.w h.1.2).1 (tg_ok w.w.calm w.fn w.w.nd h.1.1) (S2 X _ _ w h.2) (notSet_fold (E.I X (.Name "" ⟨0, 0, 0, 0⟩) _ _ _ w.w h.1.2).2)).imp fun D σ H h => loop_rd h
      · rename_i hn; cases hn
        simp only [Bool.and_eq_true] at h
        exact (ps_while w.own (E.T X _ _ w.w h.1) (S2 X _ _ w h.2)).imp fun D σ H h => whil_rd h
      · refine ps_break.imp fun D σ H h => ?_
        obtain ⟨fm, F, ρ, f, ρ', o, e, q⟩ := h
        unfold ex at e
        cases e
        exact q σ F H o (Ex.refl F) Keep.refl
      · refine ps_continue.imp fun D σ H h => ?_
        obtain ⟨fm, F, ρ, f, ρ', o, e, q⟩ := h
        unfold ex at e
        cases e
        exact q σ F H o (Ex.refl F) Keep.refl
      · refine ps_pass.imp fun D σ H h => ?_
        obtain ⟨fm, F, ρ, f, ρ', o, e, q⟩ := h
        unfold ex at e
        cases e
        exact q σ F H o (Ex.refl F) Keep.refl
      · refine ps_never.imp fun D σ H h => ?_
        obtain ⟨fm, F, ρ, f, ρ', o, e, q⟩ := h
        unfold ex at e
        cases e
      · cases h
    · intro X ss sts w h
      unfold ckSs at h
      split at h
      · rename_i hn; cases hn
      · exact pss_nil.imp fun D σ H h => nil_rd h
      · rename_i hn; cases hn
        rw [Bool.and_eq_true] at h
        exact (pss_cons (S1 X _ _ w h.1) (S2 X _ _ w h.2)).imp fun D σ H h => cons_rd h
      · cases h
end
end Px
set_option Elab.async false
set_option linter.all false
set_option maxRecDepth 100000
set_option maxHeartbeats 2000000
namespace Px
open PySem PySem.Spec PyProof.Rows L2
section
variable {P : Program} {w : World} {K : PySem.W.Frag} {mg : Str → Option Value} {base : Heap}
def OneSig (P : Program) (w : World) (K : PySem.W.Frag) (mg : Str → Option Value) (base : Heap) (k : Nat) (f : Str) (g : Gfun) : Prop :=
  ∃ a fd ps, mg f = some (.ref a) ∧ PySem.W.keepIn K (.ref a) = true ∧ Binds K fd ps [] ∧ FnOk P w K mg base CX0 k a fd ps (spOf K g)
theorem getS_start {as : List Slot} {n i : Nat} {s : Slot} (h : getS (as.map some ++ List.replicate n none) i = some s) : as[i]? = some s := by
  obtain ⟨h1, h2⟩ := getS_some h
  by_cases c : i < as.length
  · rw [List.getElem?_append_left (by simpa using c), List.getElem?_map] at h2
    cases e : as[i]? with
    | none => rw [e] at h2; cases h2
    | some t => rw [e] at h2; cases h2; rfl
  · rw [List.getElem?_append_right (by simpa using c)] at h2
    have hm := List.mem_of_getElem? h2
    have := List.eq_of_mem_replicate hm
    cases this
theorem getS_start' {as : List Slot} {n i : Nat} {s : Slot} (h : as[i]? = some s) : getS (as.map some ++ List.replicate n none) i = some s := by
  have hl := (List.getElem?_eq_some_iff.mp h).1
  unfold getS
  rw [List.getD_eq_getElem?_getD, List.getElem?_append_left (by simpa using hl), List.getElem?_map, h]
  rfl
theorem start_get {N : List Str} {vs : List V} {i : Nat} {v : V} (h : vs[i]? = some v) : (L2.start N vs)[i]? = some (some v) := by
  have hl := (List.getElem?_eq_some_iff.mp h).1
  unfold L2.start
  rw [List.getElem?_append_left (by simpa using hl), List.getElem?_map, h]
  rfl
theorem ArgsOk.get {F H : Hp} : ∀ {vs : List V} {as : List Slot} {i : Nat} {s : Slot}, ArgsOk K F H vs as → as[i]? = some s → ∃ v, vs[i]? = some v ∧ ArgOk K F H v s
  | _, _, i, s, .nil, h => by simp at h
  | _, _, 0, s, .cons h r, e => by simp at e; subst e; exact ⟨_, rfl, h⟩
  | _, _, i + 1, s, .cons h r, e => by obtain ⟨v, h1, h2⟩ := r.get (i := i) (by simpa using e); exact ⟨v, by simpa using h1, h2⟩
theorem ownArgs_ok {as : List Slot} {ws : List Nat} {ρ : PEnv} (h : ownArgs as ws ρ = true) {j : Nat} {xs : List D} (hj : as[j]? = some (Slot.own xs)) : j ∉ ws ∧ ∃ ys, getS ρ j = some (.own ys) := by
  unfold ownArgs at h
  have hl := (List.getElem?_eq_some_iff.mp hj).1
  have := List.all_eq_true.mp h j (List.mem_range.mpr hl)
  rw [hj] at this
  simp only [isOwn, Bool.not_true, Bool.false_or, Bool.and_eq_true, Bool.not_eq_true'] at this
  refine ⟨by simpa using this.1, ?_⟩
  have h2 := this.2
  split at h2
  · rename_i ys hs; exact ⟨ys, hs⟩
  · cases h2
/-- a def of the text does what its IR does -/
theorem def_ok {G : Sig} {k : Nat} {d : Def} {f : Str} {st : Stmt} {a : Addr} {fd : FuncData} {n : Nat} (F : Fun K f f st a fd) (S : FnScope d.N (d.N.take d.np) (defScope st)) (hnp : d.np ≤ d.N.length)
    (hc : ckSs n d.N (defScope st) d.body (defBody st) = true) (sig : ∀ f g, G f = some g → OneSig P w K mg base k f g) (blt : ∀ x ∈ bnames, mg x = none) :
    FnOk P w K mg base CX0 (k + 1) a fd (d.N.take d.np) (spOf K (runDef G d)) := by
  refine F.ok S (fun vs H Q E h => ?_) (fun cdv A outer s H vs Q E hr h => ⟨_, (snd_stmt G k n).2 _ _ _ ⟨⟨rfl, S.nd, hr, sig, blt⟩, fun x hx => ⟨?_, .inl rfl⟩, rfl, S.kind⟩ hc, ?_⟩)
  · obtain ⟨F0, as, r, outs, ex0, ha, hd, hg, q⟩ := h
    unfold runDef at hg
    split at hg
    · rename_i hl
      rw [ha.length, hl.1, List.length_take]
      omega
    · cases hg
  · unfold locB at hx
    split at hx
    · exact .inl (by assumption)
    · exact .inr (by assumption)
    · cases hx
  · obtain ⟨F0, as, r, outs, ex0, ha, hd, hg, q⟩ := h
    unfold runDef at hg
    split at hg
    · rename_i hl
      obtain ⟨⟨fl, ρ'⟩, e1, e2⟩ := Out.bind_inv hg
      split at e2
      · rename_i how
        have hlen := ha.length
        -- what must not change: all but the lists that came as arguments
        let B : Hp := fun b => @ite _ (ownAt as vs b) (Classical.propDecidable _) none (H b)
        have hB1 : ∀ b, ownAt as vs b → B b = none := fun b h => if_pos h
        have hB2 : ∀ b, ¬ ownAt as vs b → B b = H b := fun b hn => if_neg hn
        have ownF : ∀ b, ownAt as vs b → F0 b = none ∧ H b ≠ none := fun b ⟨j, xs, h1, h2⟩ => by
          obtain ⟨v, h3, p, ws, rfl, b1, b2, b3⟩ := ha.get h1
          rw [h2] at h3; cases h3
          exact ⟨b1, by rw [b2]; simp⟩
        have o : OK K ⟨B, F0⟩ F0 (as.map some ++ List.replicate (d.N.length - as.length) none) (L2.start d.N vs) H := by
          refine ⟨fun b u e => ?_, ex0, fun b _ => rfl, ?_, fun i s e => ?_, fun i j xs ys hij e1 e2 => ?_⟩
          · by_cases c : ownAt as vs b
            · have e' : B b = some u := e
              rw [hB1 b c] at e'; cases e'
            · have e' : B b = some u := e
              rw [hB2 b c] at e'; exact e'
          · unfold L2.start; simp [hlen]
          · have e' := getS_start e
            obtain ⟨v, h1, h2⟩ := ha.get e'
            refine ⟨v, start_get h1, ?_⟩
            cases s with
            | dat d => exact h2
            | own xs =>
              obtain ⟨p, ws, rfl, b1, b2, b3⟩ := h2
              exact ⟨p, ws, rfl, hB1 p ⟨i, xs, e', h1⟩, b1, b2, b3⟩
          · have e1' := getS_start e1
            have e2' := getS_start e2
            obtain ⟨v, h1, _⟩ := ha.get e1'
            obtain ⟨u, h2, _⟩ := ha.get e2'
            rw [start_get h1, start_get h2]
            intro z
            have := hd i j xs ys hij e1' e2'
            rw [h1, h2] at this
            exact this (by cases z; rfl)
        -- what is left behind the body
        have post : ∀ (v : V) (σ' : L2.St) (F' H' : Hp) (r : Slot), OK K ⟨B, F0⟩ F' ρ' σ' H' → Ex F0 F' → Keep (wrs d.body) (L2.start d.N vs) σ' → SlotRes K ⟨B, F0⟩ F' ρ' σ' H' v r → CallPost K F0 H vs as r ρ' v F' H' := fun v σ' F' H' r o' x' kp rr => by
          refine ⟨x', o'.exF, fun b u e hn => ?_, fun j xs ys h1 h2 => ?_, ?_⟩
          · have hb : B b = some u := by rw [hB2 b hn]; exact e
            exact ⟨o'.exB b u hb, o'.base b (by show B b ≠ none; rw [hb]; simp)⟩
          · obtain ⟨hj, _⟩ := ownArgs_ok how h1
            obtain ⟨w', h3, p, ws, rfl, b1, b2, b3, b4⟩ := o'.slot j _ h2
            obtain ⟨v0, h4, _⟩ := ha.get h1
            rw [kp j hj, start_get h4] at h3
            cases h3
            exact ⟨p, ws, h4, b2, b3, b4⟩
          · cases r with
            | dat d => exact rr
            | own ys =>
              obtain ⟨p, ws, rfl, b1, b2, b3, b4, b5⟩ := rr
              refine ⟨p, ws, rfl, ?_, b2, b3, b4⟩
              by_cases c : ownAt as vs p
              · obtain ⟨j, xs, h1, h2⟩ := c
                obtain ⟨hj, zs, hz⟩ := ownArgs_ok how h1
                exact absurd (by rw [kp j hj]; exact start_get h2) (b5 j zs hz)
              · have b1' : B p = none := b1
                rwa [hB2 p c] at b1'
        refine ⟨⟨B, F0⟩, F0, _, fl, ρ', o, e1, ?_⟩
        cases fl with
        | nx => cases e2; exact fun σ' F' H' o' x' k' => q .non F' H' (post .non σ' F' H' _ o' x' k' .non)
        | ret s => cases e2; exact fun v σ' F' H' o' x' k' rr => q v F' H' (post v σ' F' H' _ o' x' k' rr)
        | brk => cases e2
        | cnt => cases e2
      · cases e2
    · cases hg
/-! ### the program: its defs, in the text -/
structure DefIn (K : PySem.W.Frag) (mg : Str → Option Value) (d : Def) : Prop where
  ex : ∃ (st : Stmt) (a : Addr) (fd : FuncData) (n : Nat), Fun K d.nm d.nm st a fd ∧ mg d.nm = some (.ref a) ∧ Binds K fd (d.N.take d.np) [] ∧ FnScope d.N (d.N.take d.np) (defScope st) ∧ d.np ≤ d.N.length ∧ ckSs n d.N (defScope st) d.body (defBody st) = true
theorem find_mem {ds : List Def} {f : Str} {d : Def} (h : ds.find? (fun d => d.nm == f) = some d) : d ∈ ds ∧ d.nm = f :=
  ⟨List.mem_of_find?_eq_some h, by have := List.find?_some h; simpa using this⟩
theorem sig_ok {ds : List Def} (hds : ∀ d ∈ ds, DefIn K mg d) (blt : ∀ x ∈ bnames, mg x = none) : ∀ (k : Nat) (f : Str) (g : Gfun), sigOf ds k f = some g → OneSig P w K mg base k f g
  | 0, f, g, h => by unfold sigOf at h; cases h
  | k + 1, f, g, h => by
    unfold sigOf at h
    split at h
    · rename_i d hd
      cases h
      obtain ⟨hm, rfl⟩ := find_mem hd
      obtain ⟨st, a, fd, n, F, hmg, hb, hS, hnp, hc⟩ := (hds d hm).ex
      exact ⟨a, fd, d.N.take d.np, hmg, F.kp, hb, def_ok F hS hnp hc (fun f g h => sig_ok hds blt k f g h) blt⟩
    · cases h
end
end Px
set_option Elab.async false
set_option linter.all false
set_option maxRecDepth 100000
set_option maxHeartbeats 2000000
namespace Px
open PySem PySem.Spec PyProof.Rows L2
def spLaw (K : PySem.W.Frag) : Sp := fun vs H Q _ => ∃ (a : Addr) (ns : List Int), vs = [.ref a] ∧ SqL K H a (ns.map V.int) ∧ ns.length ≤ 63 ∧ ∀ H', Q (.bl true) H'
theorem rep_ints {K : PySem.W.Frag} {F : Hp} : ∀ ns : List Int, RepAll K F (ns.map V.int) (ns.map D.int)
  | [] => .nil
  | n :: ns => .cons (.int n) (rep_ints ns)
/-- what is to be shown of a law: its def, by the evaluator, gives True at each script -/
def Law (ds : List Def) (d : Def) (k : Nat) : Prop := ∀ ns : List Int, ns.length ≤ 63 → ∃ outs, runDef (sigOf ds k) d [.dat (.lst (ns.map D.int))] = .ok (.dat (.bl true), outs)
theorem law_fn {P : Program} {w : World} {K : PySem.W.Frag} {mg : Str → Option Value} {base : Heap} {ds : List Def} {d : Def} {k : Nat} {a : Addr} {fd : FuncData} {ps : List Str} (h : Law ds d k) (F : FnOk P w K mg base CX0 (k + 1) a fd ps (spOf K (runDef (sigOf ds k) d))) (hp : ps.length = 1) :
    FnOk P w K mg base CX0 (k + 1) a fd ps (spLaw K) := by
  refine F.imp fun vs H Q E ⟨b, ns, e, hS, hl, q⟩ => ?_
  subst e
  obtain ⟨outs, ho⟩ := h ns hl
  refine ⟨H, _, _, outs, Ex.refl H, .cons (show ArgOk K H H (.ref b) (.dat (.lst (ns.map D.int))) from Rep.lst hS (rep_ints ns)) .nil, fun i j xs ys hij h1 h2 => ?_, ho, fun v F' H' c => ?_⟩
  · cases i with
    | zero => simp at h1
    | succ i => simp at h1
  · cases (show Rep K F' v (.bl true) from c.res)
    exact q H'
theorem law_sp {K : PySem.W.Frag} {H : Hp} {a : Addr} {ns : List Int} (hl : ns.length ≤ 63) (hS : SqL K H a (ns.map V.int)) : spLaw K [.ref a] H (fun v _ => v = .bl true) (fun _ _ _ => False) := ⟨a, ns, rfl, hS, hl, fun _ => rfl⟩
/-- a def of the top -/
theorem defIn_mk {K : PySem.W.Frag} {h : Heap} {mg : Str → Option Value} {d : Def} {st : Stmt} {f : Addr} {n : Nat} {oc kV dc pm cd ct : Value} {od an : Option Addr} {sl : Array (Option Value)} (X : K.In h) (G : h.Ns mainGlobals mg)
    (a : PySem.W.nsIn K mainGlobals d.nm = some (some (.ref f))) (l : K.lookup f = some ⟨oc, od, .func (PySem.W.fnOf d.nm d.nm (defArgs st) (defBody st) (defScope st) .none kV dc pm an cd ct), sl⟩) (c : PySem.W.codeIn K cd d.nm = true) (k : PySem.W.keepIn K (.ref f) = true)
    (hb : ∀ (kV doc pm : Value) (an : Option Addr) (cdv ct : Value) (us : List Value), us.length = (d.N.take d.np).length → bindArgs (PySem.W.fnOf d.nm d.nm (defArgs st) (defBody st) (defScope st) .none kV doc pm an cdv ct) ⟨us, []⟩ = pure ((d.N.take d.np).zip us))
    (hS : FnScope d.N (d.N.take d.np) (defScope st)) (hnp : d.np ≤ d.N.length) (hc : ckSs n d.N (defScope st) d.body (defBody st) = true) : DefIn K mg d :=
  have F := fun_mk (st := st) l c k
  ⟨st, f, _, n, F, PySem.W.mg_of X G a, F.binds hb, hS, hnp, hc⟩
end Px

set_option Elab.async false
set_option linter.all false
set_option maxRecDepth 100000
set_option maxHeartbeats 2000000
/-! symbolic steps through the evaluator -/
namespace Py
open PySem L2 Px
@[simp] theorem _root_.Px.Out.bind_okS {α β : Type} (a : α) (f : α → Out β) : (Out.ok a).bind f = f a := rfl
@[simp] theorem _root_.Px.Out.of_someS {α : Type} (a : α) : Out.of (some a) = .ok a := rfl
def callD (G : Sig) (f : Str) (as : List Slot) : Out (Slot × PEnv) := match G f with
  | some g => g as
  | none => .bad
/-- a call of data: what it gives -/
def callV (G : Sig) (f : Str) (ds : List D) : Out Slot := (callD G f (ds.map .dat)).bind fun r => .ok r.1
theorem callR_D (G : Sig) (f : Str) (o : PEnv → Out (List Opd × PEnv)) (ρ : PEnv) : callR (G f) o ρ = (o ρ).bind fun q => (Out.of (argS q.2 q.1)).bind fun ss => (callD G f ss).bind fun r => if (slotsOf q.1).Nodup then (Out.of (backA r.2 0 q.1 q.2)).bind fun ρ2 => .ok (r.1, ρ2) else .bad := by
  unfold callR callD
  cases h : G f with
  | some g => rfl
  | none =>
    cases o ρ with
    | bad => rfl
    | ok q =>
      show Out.bad = (Out.of (argS q.2 q.1)).bind _
      cases argS q.2 q.1 <;> rfl
theorem argS_vals (ρ : PEnv) : ∀ ds : List D, argS ρ (ds.map .val) = some (ds.map .dat)
  | [] => rfl
  | d :: ds => by
    show (argS ρ (ds.map .val)).map (Slot.dat d :: ·) = _
    rw [argS_vals ρ ds]; rfl
theorem backA_vals (outs : PEnv) : ∀ (ds : List D) (k : Nat) (ρ : PEnv), backA outs k (ds.map .val) ρ = some ρ
  | [], _, _ => rfl
  | d :: ds, k, ρ => backA_vals outs ds (k + 1) ρ
theorem slotsOf_vals : ∀ ds : List D, slotsOf (ds.map .val) = []
  | [] => rfl
  | d :: ds => slotsOf_vals ds
/-- a call whose arguments are values -/
theorem callR_vals {G : Sig} {f : Str} {o : PEnv → Out (List Opd × PEnv)} {ρ ρ1 : PEnv} {ds : List D} {r : Slot} (h1 : o ρ = .ok (ds.map .val, ρ1)) (h2 : callV G f ds = .ok r) : callR (G f) o ρ = .ok (r, ρ1) := by
  rw [callR_D, h1, Out.bind_okS]
  show (Out.of (argS ρ1 (ds.map .val))).bind _ = _
  rw [argS_vals, Out.of_someS, Out.bind_okS]
  unfold callV at h2
  obtain ⟨⟨s, outs⟩, e1, e2⟩ := Out.bind_ok h2
  rw [e1, Out.bind_okS]
  show (if (slotsOf (ds.map .val)).Nodup then (Out.of (backA outs 0 (ds.map .val) ρ1)).bind fun ρ2 => .ok (s, ρ2) else .bad) = _
  rw [slotsOf_vals, if_pos List.nodup_nil, backA_vals, Out.of_someS, Out.bind_okS]
  cases e2; rfl
/-- operands that are expressions -/
theorem opnds_nil {G : Sig} {ρ : PEnv} : opnds G [] ρ = .ok ([], ρ) := by unfold opnds; rfl
theorem opnds_ex {G : Sig} {e : E} {es : List Ar} {ρ ρ1 ρ2 : PEnv} {d : D} {ds : List Opd} (h : ev G e ρ = .ok (d, ρ1)) (h2 : opnds G es ρ1 = .ok (ds, ρ2)) : opnds G (.ex e :: es) ρ = .ok (.val d :: ds, ρ2) := by
  unfold opnds opnd; rw [h, Out.bind_okS, Out.bind_okS, h2]; rfl
theorem ev_call {G : Sig} {f : Str} {as : List Ar} {ρ ρ1 : PEnv} {ds : List D} {r : D} (h1 : opnds G as ρ = .ok (ds.map .val, ρ1)) (h2 : callV G f ds = .ok (.dat r)) : ev G (.call f as) ρ = .ok (r, ρ1) := by
  unfold ev; rw [callR_vals (G := G) (f := f) (o := fun ρ => opnds G as ρ) (ρ := ρ) h1 h2]; rfl
theorem evo_call {G : Sig} {f : Str} {as : List Ar} {ρ ρ1 : PEnv} {ds : List D} {r : Slot} (h1 : opnds G as ρ = .ok (ds.map .val, ρ1)) (h2 : callV G f ds = .ok r) : evo G (.call f as) ρ = .ok (r, ρ1) := by
  exact callR_vals (G := G) (f := f) (o := fun ρ => opnds G as ρ) (ρ := ρ) h1 h2
/-- one turn after the other -/
theorem compL_map {α : Type} {f : D → PEnv → Out (List D × PEnv)} {ρ : PEnv} {φ g : α → D} : ∀ {L : List α}, (∀ x ∈ L, f (φ x) ρ = .ok ([g x], ρ)) → compL f (L.map φ) ρ = .ok (L.map g, ρ)
  | [], _ => rfl
  | x :: xs, h => by
    show (f (φ x) ρ).bind _ = _
    rw [h x (List.mem_cons_self ..), Out.bind_okS]
    show (compL f (xs.map φ) ρ).bind _ = _
    rw [compL_map fun y hy => h y (List.mem_cons_of_mem _ hy), Out.bind_okS]
    rfl
theorem compL_filter {α : Type} {f : D → PEnv → Out (List D × PEnv)} {ρ : PEnv} {φ g : α → D} {p : α → Bool} : ∀ {L : List α}, (∀ x ∈ L, f (φ x) ρ = .ok (if p x then [g x] else [], ρ)) → compL f (L.map φ) ρ = .ok ((L.filter p).map g, ρ)
  | [], _ => rfl
  | x :: xs, h => by
    show (f (φ x) ρ).bind _ = _
    rw [h x (List.mem_cons_self ..), Out.bind_okS]
    show (compL f (xs.map φ) ρ).bind _ = _
    rw [compL_filter fun y hy => h y (List.mem_cons_of_mem _ hy), Out.bind_okS, List.filter_cons]
    cases p x <;> rfl
theorem sameB_refl {ik : IK} {ρ : PEnv} : sameB ik ρ ρ = true := by cases ik <;> simp [sameB]
/-- a comprehension without tests, whose parts change nothing -/
theorem ev_compM {α : Type} {G : Sig} {vs : List Nat} {tg : Bool × List Nat} {ik : IK} {ies : List E} {elt : E} {ρ ρ1 : PEnv} {ds : List D} {L : List α} (φ g : α → D) (h1 : evs G ies ρ = .ok (ds, ρ1)) (h2 : itemsOf ρ1 ik ds = some (L.map φ)) (h3 : (vs.all fun v => !isOwn (getS ρ1 v)) = true) (hl : L.length < lim)
    (step : ∀ x ∈ L, ∃ ρ2 ρ3, setT (wipeP ρ1 vs) tg (φ x) = some ρ2 ∧ ev G elt ρ2 = .ok (g x, ρ3) ∧ sameB ik ρ1 ρ3 = true ∧ wipeP ρ3 vs = wipeP ρ1 vs) :
    ev G (.comp vs tg ik ies [] elt) ρ = .ok (.lst (L.map g), backP ρ1 (wipeP ρ1 vs) vs) := by
  unfold ev
  rw [h1, Out.bind_okS, h2, Out.of_someS, Out.bind_okS, if_pos h3]
  rw [compL_map (g := g) fun x hx => ?_]
  · rw [Out.bind_okS, if_pos (by simpa using hl)]
  · obtain ⟨ρ2, ρ3, a1, a2, a3, a4⟩ := step x hx
    rw [a1, Out.of_someS, Out.bind_okS]
    unfold evC
    rw [Out.bind_okS]
    show (ev G elt ρ2).bind _ = _
    rw [a2, Out.bind_okS]
    show (if sameB ik ρ1 ρ3 = true then Out.ok ([g x], wipeP ρ3 vs) else .bad) = _
    rw [if_pos a3, a4]
/-- a comprehension with tests -/
theorem ev_compF {α : Type} {G : Sig} {vs : List Nat} {tg : Bool × List Nat} {ik : IK} {ies : List E} {conds : List T} {elt : E} {ρ ρ1 : PEnv} {ds : List D} {L : List α} (φ g : α → D) (p : α → Bool) (h1 : evs G ies ρ = .ok (ds, ρ1)) (h2 : itemsOf ρ1 ik ds = some (L.map φ)) (h3 : (vs.all fun v => !isOwn (getS ρ1 v)) = true) (hl : L.length < lim)
    (step : ∀ x ∈ L, ∃ ρ2 ρ3, setT (wipeP ρ1 vs) tg (φ x) = some ρ2 ∧ evC G true conds ρ2 = .ok (p x, ρ3) ∧ (p x = false → sameB ik ρ1 ρ3 = true ∧ wipeP ρ3 vs = wipeP ρ1 vs) ∧ (p x = true → ∃ ρ4, ev G elt ρ3 = .ok (g x, ρ4) ∧ sameB ik ρ1 ρ4 = true ∧ wipeP ρ4 vs = wipeP ρ1 vs)) :
    ev G (.comp vs tg ik ies conds elt) ρ = .ok (.lst ((L.filter p).map g), backP ρ1 (wipeP ρ1 vs) vs) := by
  unfold ev
  rw [h1, Out.bind_okS, h2, Out.of_someS, Out.bind_okS, if_pos h3]
  rw [compL_filter (g := g) (p := p) fun x hx => ?_]
  · rw [Out.bind_okS, if_pos (by
      have := List.length_filter_le p L
      simp only [List.length_map]; omega)]
  · obtain ⟨ρ2, ρ3, a1, a2, a3, a4⟩ := step x hx
    rw [a1, Out.of_someS, Out.bind_okS, a2, Out.bind_okS]
    cases hp : p x with
    | false =>
      obtain ⟨b1, b2⟩ := a3 hp
      show (if sameB ik ρ1 ρ3 = true then Out.ok (([] : List D), wipeP ρ3 vs) else .bad) = _
      rw [if_pos b1, b2]; rfl
    | true =>
      obtain ⟨ρ4, b1, b2, b3⟩ := a4 hp
      show (ev G elt ρ3).bind _ = _
      rw [b1, Out.bind_okS]
      show (if sameB ik ρ1 ρ4 = true then Out.ok ([g x], wipeP ρ4 vs) else .bad) = _
      rw [if_pos b2, b3]; rfl
/-- a loop, whatever ends it -/
theorem forL_gen {α : Type} {f : D → PEnv → Out (Flw × PEnv)} {φ : α → D} {Q : Flw → PEnv → Prop} (I : List α → PEnv → Prop) (q : ∀ ρ, I [] ρ → Q .nx ρ)
    (step : ∀ x xs ρ, I (x :: xs) ρ → ∃ fl ρ', f (φ x) ρ = .ok (fl, ρ') ∧ match fl with | .nx => I xs ρ' | .cnt => I xs ρ' | .brk => Q .nx ρ' | f => Q f ρ') : ∀ (L : List α) (ρ : PEnv), I L ρ → ∃ fl ρ', forL f (L.map φ) ρ = .ok (fl, ρ') ∧ Q fl ρ'
  | [], ρ, h => ⟨.nx, ρ, rfl, q ρ h⟩
  | x :: xs, ρ, h => by
    obtain ⟨fl, ρ1, h1, h2⟩ := step x xs ρ h
    rw [List.map_cons]
    unfold forL
    rw [h1, Out.bind_okS]
    cases fl with
    | nx => exact forL_gen I q step xs ρ1 h2
    | cnt => exact forL_gen I q step xs ρ1 h2
    | brk => exact ⟨.nx, ρ1, rfl, h2⟩
    | ret s => exact ⟨.ret s, ρ1, rfl, h2⟩
/-- a loop that goes to its end: I of what is still to come -/
theorem forL_inv {α : Type} {f : D → PEnv → Out (Flw × PEnv)} {φ : α → D} (I : List α → PEnv → Prop) (step : ∀ x xs ρ, I (x :: xs) ρ → ∃ ρ', (f (φ x) ρ = .ok (.nx, ρ') ∨ f (φ x) ρ = .ok (.cnt, ρ')) ∧ I xs ρ') : ∀ (L : List α) (ρ : PEnv), I L ρ → ∃ ρ', forL f (L.map φ) ρ = .ok (.nx, ρ') ∧ I [] ρ'
  | [], ρ, h => ⟨ρ, rfl, h⟩
  | x :: xs, ρ, h => by
    obtain ⟨ρ1, h1, h2⟩ := step x xs ρ h
    obtain ⟨ρ2, h3, h4⟩ := forL_inv I step xs ρ1 h2
    refine ⟨ρ2, ?_, h4⟩
    show (f (φ x) ρ).bind _ = _
    rcases h1 with h1 | h1 <;> (rw [h1, Out.bind_okS]; exact h3)
/-- a loop that may return -/
theorem forL_ret {α : Type} {f : D → PEnv → Out (Flw × PEnv)} {φ : α → D} (I : List α → PEnv → Prop) (R : Slot → PEnv → Prop) (step : ∀ x xs ρ, I (x :: xs) ρ → (∃ ρ', f (φ x) ρ = .ok (.nx, ρ') ∧ I xs ρ') ∨ ∃ s ρ', f (φ x) ρ = .ok (.ret s, ρ') ∧ R s ρ') : ∀ (L : List α) (ρ : PEnv), I L ρ → (∃ ρ', forL f (L.map φ) ρ = .ok (.nx, ρ') ∧ I [] ρ') ∨ ∃ s ρ', forL f (L.map φ) ρ = .ok (.ret s, ρ') ∧ R s ρ'
  | [], ρ, h => .inl ⟨ρ, rfl, h⟩
  | x :: xs, ρ, h => by
    rcases step x xs ρ h with ⟨ρ1, h1, h2⟩ | ⟨s, ρ1, h1, h2⟩
    · rcases forL_ret I R step xs ρ1 h2 with ⟨ρ2, h3, h4⟩ | ⟨s, ρ2, h3, h4⟩
      · refine .inl ⟨ρ2, ?_, h4⟩
        show (f (φ x) ρ).bind _ = _
        rw [h1, Out.bind_okS]; exact h3
      · refine .inr ⟨s, ρ2, ?_, h4⟩
        show (f (φ x) ρ).bind _ = _
        rw [h1, Out.bind_okS]; exact h3
    · refine .inr ⟨s, ρ1, ?_, h2⟩
      show (f (φ x) ρ).bind _ = _
      rw [h1, Out.bind_okS]
/-! statements, by what they leave -/
def WS1 (G : Sig) (s : S) (ρ : PEnv) (Q : Flw → PEnv → Prop) : Prop := ∃ fl ρ', ex G s ρ = .ok (fl, ρ') ∧ Q fl ρ'
def WSs (G : Sig) (ss : List S) (ρ : PEnv) (Q : Flw → PEnv → Prop) : Prop := ∃ fl ρ', exs G ss ρ = .ok (fl, ρ') ∧ Q fl ρ'
theorem ws_nil {G : Sig} {ρ : PEnv} {Q : Flw → PEnv → Prop} (h : Q .nx ρ) : WSs G [] ρ Q := ⟨_, _, by unfold exs; rfl, h⟩
theorem ws_cons {G : Sig} {s : S} {ss : List S} {ρ : PEnv} {Q : Flw → PEnv → Prop} (h : WS1 G s ρ fun fl ρ' => match fl with | .nx => WSs G ss ρ' Q | f => Q f ρ') : WSs G (s :: ss) ρ Q := by
  obtain ⟨fl, ρ1, h1, h2⟩ := h
  cases fl with
  | nx =>
    obtain ⟨fl2, ρ2, h3, h4⟩ := h2
    exact ⟨fl2, ρ2, by unfold exs; rw [h1, Out.bind_okS]; exact h3, h4⟩
  | brk => exact ⟨_, _, by unfold exs; rw [h1, Out.bind_okS], h2⟩
  | cnt => exact ⟨_, _, by unfold exs; rw [h1, Out.bind_okS], h2⟩
  | ret r => exact ⟨_, _, by unfold exs; rw [h1, Out.bind_okS], h2⟩
theorem ws_set {G : Sig} {i : Nat} {e : E} {ρ ρ1 : PEnv} {d : D} {Q : Flw → PEnv → Prop} (h : ev G e ρ = .ok (d, ρ1)) (q : Q .nx (ρ1.set i (some (.dat d)))) : WS1 G (.set false i e) ρ Q := ⟨_, _, by unfold ex; rw [h]; rfl, q⟩
theorem ws_seto {G : Sig} {i : Nat} {e : E} {ρ ρ1 : PEnv} {d : Slot} {Q : Flw → PEnv → Prop} (h : evo G e ρ = .ok (d, ρ1)) (q : Q .nx (ρ1.set i (some d))) : WS1 G (.set true i e) ρ Q := ⟨_, _, by unfold ex; rw [h]; rfl, q⟩
theorem ws_ret {G : Sig} {e : E} {ρ ρ1 : PEnv} {d : Slot} {Q : Flw → PEnv → Prop} (h : evo G e ρ = .ok (d, ρ1)) (q : Q (.ret d) ρ1) : WS1 G (.ret e) ρ Q := ⟨_, _, by unfold ex; rw [h]; rfl, q⟩
theorem ws_ite {G : Sig} {c : T} {a b : List S} {ρ ρ1 : PEnv} {t : Bool} {Q : Flw → PEnv → Prop} (h : evT G c ρ = .ok (t, ρ1)) (q1 : t = true → WSs G a ρ1 Q) (q2 : t = false → WSs G b ρ1 Q) : WS1 G (.ite c a b) ρ Q := by
  cases t with
  | true =>
    obtain ⟨fl, ρ2, h1, h2⟩ := q1 rfl
    exact ⟨fl, ρ2, by unfold ex; rw [h]; exact h1, h2⟩
  | false =>
    obtain ⟨fl, ρ2, h1, h2⟩ := q2 rfl
    exact ⟨fl, ρ2, by unfold ex; rw [h]; exact h1, h2⟩
theorem ws_loop {α : Type} {G : Sig} {tg : Bool × List Nat} {ik : IK} {ies : List E} {body : List S} {ρ ρ1 : PEnv} {ds : List D} {L : List α} {Q : Flw → PEnv → Prop} (φ : α → D) (I : List α → PEnv → Prop) (h1 : evs G ies ρ = .ok (ds, ρ1)) (h2 : itemsOf ρ1 ik ds = some (L.map φ)) (h3 : freeB ik (tg.2 ++ wrs body) = true)
    (h0 : I L ρ1) (step : ∀ x xs ρ, I (x :: xs) ρ → ∃ ρ2, setT ρ tg (φ x) = some ρ2 ∧ WSs G body ρ2 fun fl ρ' => sameB ik ρ1 ρ' = true ∧ match fl with | .nx => I xs ρ' | .cnt => I xs ρ' | .brk => Q .nx ρ' | f => Q f ρ')
    (q : ∀ ρ, I [] ρ → Q .nx ρ) : WS1 G (.loop tg ik ies body) ρ Q := by
  unfold WS1
  unfold ex
  rw [h1, Out.bind_okS, h2, Out.of_someS, Out.bind_okS, if_pos h3]
  refine forL_gen I q (fun x xs ρ h => ?_) L ρ1 h0
  obtain ⟨ρ2, a1, fl, ρ3, a2, a3, a4⟩ := step x xs ρ h
  refine ⟨fl, ρ3, ?_, a4⟩
  show Out.bind _ _ = _
  rw [a1, Out.of_someS, Out.bind_okS, a2, Out.bind_okS, if_pos a3]
theorem wl_step {G : Sig} {c : T} {body : List S} {Q : Flw → PEnv → Prop} {n : Nat} {ρ ρ1 : PEnv} {t : Bool} (h : evT G c ρ = .ok (t, ρ1)) (q0 : t = false → Q .nx ρ1)
    (q1 : t = true → WSs G body ρ1 fun fl ρ' => match fl with | .nx => ∃ fl' ρ2, whileL (evT G c) (exs G body) n ρ' = .ok (fl', ρ2) ∧ Q fl' ρ2 | .cnt => ∃ fl' ρ2, whileL (evT G c) (exs G body) n ρ' = .ok (fl', ρ2) ∧ Q fl' ρ2 | .brk => Q .nx ρ' | f => Q f ρ') :
    ∃ fl' ρ2, whileL (evT G c) (exs G body) (n + 1) ρ = .ok (fl', ρ2) ∧ Q fl' ρ2 := by
  show ∃ fl' ρ2, Out.bind _ _ = _ ∧ _
  rw [h, Out.bind_okS]
  cases t with
  | false => exact ⟨.nx, ρ1, rfl, q0 rfl⟩
  | true =>
    obtain ⟨fl, ρ3, a1, a2⟩ := q1 rfl
    show ∃ fl' ρ2, Out.bind _ _ = _ ∧ _
    rw [a1, Out.bind_okS]
    cases fl with
    | nx => exact a2
    | cnt => exact a2
    | brk => exact ⟨.nx, ρ3, rfl, a2⟩
    | ret s => exact ⟨.ret s, ρ3, rfl, a2⟩
/-- a while loop, by a measure -/
theorem ws_while {G : Sig} {c : T} {body : List S} {Q : Flw → PEnv → Prop} {ρ : PEnv} (I : Nat → PEnv → Prop) (m : Nat) (hm : m < wlim) (h0 : I m ρ)
    (step : ∀ m ρ, I m ρ → ∃ t ρ1, evT G c ρ = .ok (t, ρ1) ∧ (t = false → Q .nx ρ1) ∧ (t = true → 0 < m ∧ WSs G body ρ1 fun fl ρ' => match fl with | .nx => ∃ m' < m, I m' ρ' | .cnt => ∃ m' < m, I m' ρ' | .brk => Q .nx ρ' | f => Q f ρ')) :
    WS1 G (.whil c body) ρ Q := by
  unfold WS1
  unfold ex
  have key : ∀ n m ρ, m < n → I m ρ → ∃ fl' ρ2, whileL (evT G c) (exs G body) n ρ = .ok (fl', ρ2) ∧ Q fl' ρ2 := by
    intro n
    induction n with
    | zero => exact fun m ρ h => absurd h (Nat.not_lt_zero _)
    | succ n ih =>
      intro m ρ hm hI
      obtain ⟨t, ρ1, a1, a2, a3⟩ := step m ρ hI
      refine wl_step a1 a2 fun ht => ?_
      obtain ⟨b1, fl, ρ', b2, b3⟩ := a3 ht
      refine ⟨fl, ρ', b2, ?_⟩
      cases fl with
      | nx => obtain ⟨m', c1, c2⟩ := b3; exact ih m' ρ' (by omega) c2
      | cnt => obtain ⟨m', c1, c2⟩ := b3; exact ih m' ρ' (by omega) c2
      | brk => exact b3
      | ret s => exact b3
  exact key wlim m ρ hm h0
/-- a def, by its body -/
theorem callV_run {ds : List Def} {k : Nat} {f : Str} {d : Def} {as : List D} {r : Slot} (hf : ds.find? (fun d => d.nm == f) = some d) (hl : as.length = d.np ∧ d.np ≤ d.N.length)
    (h : WSs (sigOf ds k) d.body ((as.map fun a => some (.dat a)) ++ List.replicate (d.N.length - as.length) none) fun fl _ => match fl with | .nx => r = .dat .non | .ret s => r = s | _ => False) : callV (sigOf ds (k + 1)) f as = .ok r := by
  obtain ⟨fl, ρ', h1, h2⟩ := h
  unfold callV callD
  have e : sigOf ds (k + 1) f = some (runDef (sigOf ds k) d) := by
    show (match ds.find? fun d => d.nm == f with | some d => some (runDef (sigOf ds k) d) | none => none) = _
    rw [hf]
  rw [e]
  show (runDef (sigOf ds k) d (as.map .dat)).bind _ = _
  unfold runDef
  rw [if_pos (by simpa using hl)]
  simp only [List.map_map, List.length_map]
  show Out.bind (Out.bind (exs (sigOf ds k) d.body ((as.map fun a => some (Slot.dat a)) ++ List.replicate (d.N.length - as.length) none)) _) _ = _
  rw [h1, Out.bind_okS]
  have ho : ownArgs (as.map Slot.dat) (wrs d.body) ρ' = true := by
    unfold ownArgs
    rw [List.all_eq_true]
    intro j hj
    rw [List.getElem?_map]
    cases as[j]? <;> rfl
  rw [if_pos ho]
  cases fl with
  | nx => subst h2; rfl
  | ret s => subst h2; rfl
  | brk => exact h2.elim
  | cnt => exact h2.elim
end Py

set_option Elab.async false
set_option linter.all false
set_option maxRecDepth 100000
set_option maxHeartbeats 2000000
/-! the laws' own drawing -/
namespace Py
open PySem L2 Px
def d_law_start : Def := { nm := "_law_start", N := ["script"], np := 1, body := [
    .ret (.dsp false [.var 0, .con (.int 0), .con (.int 0), .con (.int 7)])] }
def d_law_pick : Def := { nm := "_law_pick", N := ["state", "limit", "cell", "drawn"], np := 2, body := [
    .ite (.bop true [.val (.ex (.prim (.cmp .Eq) [.ex (.prim .ix [.slot 0, .ex (.con (.int 2))]), .ex (.con (.int 0))])), .val (.ex (.prim (.cmp .Lt) [.ex (.prim .ix [.slot 0, .ex (.con (.int 1))]), .ex (.prim (.bi .len) [.ex (.prim .ix [.slot 0, .ex (.con (.int 0))])])]))]) [
    .set false 2 (.prim (.bi .abs) [.ex (.prim .ix [.ex (.prim .ix [.slot 0, .ex (.con (.int 0))]), .ex (.prim .ix [.slot 0, .ex (.con (.int 1))])])]),
    .seti 0 (.con (.int 1)) (.prim (.bin .Add) [.ex (.prim .ix [.slot 0, .ex (.con (.int 1))]), .ex (.con (.int 1))]),
    .ite (.val (.ex (.prim (.cmp .GtE) [.slot 2, .ex (.prim (.bin .Pow) [.ex (.con (.int 10)), .ex (.con (.int 18))])]))) [
    .seti 0 (.con (.int 2)) (.var 2)] [
    .seti 0 (.con (.int 3)) (.prim (.bin .Add) [.ex (.prim (.bin .Mod) [.ex (.prim (.bi .int) [.ex (.prim (.bin .Add) [.ex (.prim (.bin .Mult) [.ex (.prim .ix [.slot 0, .ex (.con (.int 3))]), .ex (.con (.int 48271))]), .slot 2])]), .ex (.con (.int 2147483646))]), .ex (.con (.int 1))])]] [],
    .ite (.val (.ex (.prim (.cmp .Gt) [.ex (.prim .ix [.slot 0, .ex (.con (.int 2))]), .ex (.con (.int 0))]))) [
    .set false 3 (.prim (.bin .Mod) [.ex (.prim (.bi .int) [.ex (.prim .ix [.slot 0, .ex (.con (.int 2))])]), .slot 1]),
    .seti 0 (.con (.int 2)) (.prim (.bin .FloorDiv) [.ex (.prim .ix [.slot 0, .ex (.con (.int 2))]), .slot 1]),
    .ret (.var 3)] [],
    .seti 0 (.con (.int 3)) (.prim (.bin .Mod) [.ex (.prim (.bi .int) [.ex (.prim (.bin .Mult) [.ex (.prim .ix [.slot 0, .ex (.con (.int 3))]), .ex (.con (.int 48271))])]), .ex (.con (.int 2147483647))]),
    .ret (.prim (.bin .Mod) [.ex (.prim (.bi .int) [.ex (.prim (.bin .Add) [.ex (.prim (.bin .FloorDiv) [.ex (.prim .ix [.slot 0, .ex (.con (.int 3))]), .ex (.con (.int 5))]), .ex (.prim (.bin .Mod) [.ex (.prim (.bi .int) [.ex (.prim (.bin .Mult) [.ex (.prim .ix [.slot 0, .ex (.con (.int 3))]), .ex (.prim .ix [.slot 0, .ex (.con (.int 3))])])]), .ex (.con (.int 2147483629))])])]), .slot 1])] }
def stOf (ns : List Int) (i b : Nat) (r : Int) : List D := [.lst (ns.map .int), .int i, .int b, .int r]
def Good (st : List D) : Prop := ∃ (ns : List Int) (i b : Nat) (r : Int), st = stOf ns i b r ∧ ns.length ≤ 63 ∧ 0 ≤ r ∧ r < 2147483648
theorem getS_0 {x : Option Slot} {ρ : PEnv} : getS (x :: ρ) 0 = x := rfl
theorem getS_s {x : Option Slot} {ρ : PEnv} {i : Nat} : getS (x :: ρ) (i + 1) = getS ρ i := rfl
theorem atI_0 {α : Type} {x : α} {xs : List α} : atI (x :: xs) 0 = some x := atI_nat (j := 0) rfl
theorem atI_1 {α : Type} {x y : α} {xs : List α} : atI (x :: y :: xs) 1 = some y := atI_nat (j := 1) rfl
theorem atI_2 {α : Type} {x y z : α} {xs : List α} : atI (x :: y :: z :: xs) 2 = some z := atI_nat (j := 2) rfl
theorem atI_3 {α : Type} {x y z w : α} {xs : List α} : atI (x :: y :: z :: w :: xs) 3 = some w := atI_nat (j := 3) rfl
theorem setAt_1 {x y : D} {xs : List D} {d : D} : setAt (x :: y :: xs) 1 d = some (x :: d :: xs) := by
  simp [setAt, ixN]; omega
theorem setAt_2 {x y z : D} {xs : List D} {d : D} : setAt (x :: y :: z :: xs) 2 d = some (x :: y :: d :: xs) := by
  simp [setAt, ixN]; omega
theorem setAt_3 {x y z w : D} {xs : List D} {d : D} : setAt (x :: y :: z :: w :: xs) 3 d = some (x :: y :: z :: d :: xs) := by
  simp [setAt, ixN]; omega
theorem eqF_int (i j : Int) : eqF (.int i) (.int j) = some (decide (i = j)) := by
  unfold eqF
  rw [if_pos ⟨rfl, rfl⟩]
  rfl
theorem log2_lt {n k : Nat} (h : n < 2 ^ k) (hk : 0 < k) : n.log2 < k := by
  by_cases h0 : n = 0
  · subst h0; simpa using hk
  · exact (Nat.log2_lt h0).mpr h
theorem mulI {i j : Int} {a b : Nat} (h1 : i.natAbs < 2 ^ a) (h2 : j.natAbs < 2 ^ b) (ha : 0 < a) (hb : 0 < b) (h : a + b ≤ 1000000) : binI .Mult i j = some (i * j) := by
  have := log2_lt h1 ha
  have := log2_lt h2 hb
  show (if _ then _ else _) = _
  rw [if_pos (by omega)]
theorem addI (i j : Int) : binI .Add i j = some (i + j) := rfl
theorem subI (i j : Int) : binI .Sub i j = some (i - j) := rfl
theorem fdI {i j : Int} (h : 0 < j) (h2 : j < 1073741824) : binI .FloorDiv i j = some (i / j) := by
  show (if _ then _ else _) = _
  rw [if_pos ⟨h, Nat.lt_of_lt_of_le (log2_lt (k := 30) (by omega) (by omega)) (by omega)⟩]
theorem mdI {i j : Int} (h : 0 < j) : binI .Mod i j = some (i % j) := by
  show (if _ then _ else _) = _
  rw [if_pos h]
theorem pwI : binI .Pow 10 18 = some 1000000000000000000 := by decide
def stepR (r c : Int) : Int := (r * 48271 + c) % 2147483646 + 1
def stepS (r : Int) : Int := (r * 48271) % 2147483647
theorem pick_tail (G : Sig) {ns : List Int} {m : Int} (hl : ns.length ≤ 63) (hm : 0 < m) (hm2 : m < 1073741824) (i b : Nat) (r : Int) (x : Option Slot) (h0 : 0 ≤ r) (h1 : r < 2147483648) :
    WSs G (d_law_pick.body.drop 1) [some (.own (stOf ns i b r)), some (.dat (.int m)), x, none] fun fl ρ' => ∃ d st', fl = .ret (.dat (.int d)) ∧ getS ρ' 0 = some (.own st') ∧ Good st' ∧ 0 ≤ d ∧ d < m := by
  unfold d_law_pick
  refine ws_cons (ws_ite (t := decide (0 < (b : Int))) (ρ1 := [some (.own (stOf ns i b r)), some (.dat (.int m)), x, none]) ?_ (fun ht => ?_) (fun hf => ?_))
  · simp [evT, opnd, ev, evo, evs, evC, evB, opnds, getS_0, getS_s, rdAll, rdO, Slot.frz, primF, ixF, stOf, atI_0, atI_1, atI_2, atI_3, setAt_1, setAt_2, setAt_3, cmpF, truD, biF, binF, freshP, isOwn, ex, eqF_int, addI, subI]
  · refine ws_cons (ws_set (d := .int ((b : Int) % m)) (ρ1 := [some (.own (stOf ns i b r)), some (.dat (.int m)), x, none]) ?_ ?_)
    · simp [evT, opnd, ev, evo, evs, evC, evB, opnds, getS_0, getS_s, rdAll, rdO, Slot.frz, primF, ixF, stOf, atI_0, atI_1, atI_2, atI_3, setAt_1, setAt_2, setAt_3, cmpF, truD, biF, binF, freshP, isOwn, ex, eqF_int, addI, subI, mdI hm]
    · refine ws_cons ⟨.nx, [some (.own (stOf ns i (b / m.toNat) r)), some (.dat (.int m)), x, some (.dat (.int ((b : Int) % m)))], ?_, ?_⟩
      · simp [evT, opnd, ev, evo, evs, evC, evB, opnds, getS_0, getS_s, rdAll, rdO, Slot.frz, primF, ixF, stOf, atI_0, atI_1, atI_2, atI_3, setAt_1, setAt_2, setAt_3, cmpF, truD, biF, binF, freshP, isOwn, ex, eqF_int, addI, subI, fdI hm hm2]
        have : (b : Int) / m = ((b / m.toNat : Nat) : Int) := by
          rw [Int.natCast_ediv, Int.toNat_of_nonneg (Int.le_of_lt hm)]
        rw [show max m 0 = m by omega]
      · refine ws_cons (ws_ret (d := .dat (.int ((b : Int) % m))) (ρ1 := [some (.own (stOf ns i (b / m.toNat) r)), some (.dat (.int m)), x, some (.dat (.int ((b : Int) % m)))]) ?_ ?_)
        · simp [evT, opnd, ev, evo, evs, evC, evB, opnds, getS_0, getS_s, rdAll, rdO, Slot.frz, primF, ixF, stOf, atI_0, atI_1, atI_2, atI_3, setAt_1, setAt_2, setAt_3, cmpF, truD, biF, binF, freshP, isOwn, ex, eqF_int, addI, subI]
        · exact ⟨_, _, rfl, rfl, ⟨ns, _, _, _, rfl, hl, h0, h1⟩, Int.emod_nonneg _ (by omega), Int.emod_lt_of_pos _ hm⟩
  · have e0 : binI .Mult r 48271 = some (r * 48271) := mulI (a := 40) (b := 20) (by omega) (by decide) (by decide) (by decide) (by decide)
    have g0 : 0 ≤ stepS r := Int.emod_nonneg _ (by decide)
    have g1 : stepS r < 2147483648 := Int.lt_trans (Int.emod_lt_of_pos _ (by decide)) (by decide)
    have e1 : binI .Mult (stepS r) (stepS r) = some (stepS r * stepS r) := mulI (a := 40) (b := 40) (by omega) (by omega) (by decide) (by decide) (by decide)
    refine ws_nil ?_
    refine ws_cons ⟨.nx, [some (.own (stOf ns i b (stepS r))), some (.dat (.int m)), x, none], ?_, ?_⟩
    · simp [evT, opnd, ev, evo, evs, evC, evB, opnds, getS_0, getS_s, rdAll, rdO, Slot.frz, primF, ixF, stOf, atI_0, atI_1, atI_2, atI_3, setAt_1, setAt_2, setAt_3, cmpF, truD, biF, binF, freshP, isOwn, ex, eqF_int, addI, subI, e0, mdI, stepS]
    · have e2 : binI .FloorDiv (stepS r) 5 = some (stepS r / 5) := fdI (by decide) (by decide)
      refine ws_cons (ws_ret (d := .dat (.int ((stepS r / 5 + stepS r * stepS r % 2147483629) % m))) (ρ1 := [some (.own (stOf ns i b (stepS r))), some (.dat (.int m)), x, none]) ?_ ?_)
      · simp [evT, opnd, ev, evo, evs, evC, evB, opnds, getS_0, getS_s, rdAll, rdO, Slot.frz, primF, ixF, stOf, atI_0, atI_1, atI_2, atI_3, setAt_1, setAt_2, setAt_3, cmpF, truD, biF, binF, freshP, isOwn, ex, eqF_int, addI, subI, e1, e2, mdI hm, mdI (show (0 : Int) < 2147483629 by decide)]
      · exact ⟨_, _, rfl, rfl, ⟨ns, _, _, _, rfl, hl, g0, g1⟩, Int.emod_nonneg _ (by omega), Int.emod_lt_of_pos _ hm⟩
theorem pick_body (G : Sig) {ns : List Int} {i b : Nat} {r m : Int} (hl : ns.length ≤ 63) (h0 : 0 ≤ r) (h1 : r < 2147483648) (hm : 0 < m) (hm2 : m < 1073741824) :
    WSs G d_law_pick.body [some (.own (stOf ns i b r)), some (.dat (.int m)), none, none] fun fl ρ' => ∃ d st', fl = .ret (.dat (.int d)) ∧ getS ρ' 0 = some (.own st') ∧ Good st' ∧ 0 ≤ d ∧ d < m := by
  have T := pick_tail G hl hm hm2
  unfold d_law_pick at T ⊢
  refine ws_cons (ws_ite (t := decide (b = 0) && decide ((i : Int) < ns.length)) (ρ1 := [some (.own (stOf ns i b r)), some (.dat (.int m)), none, none]) ?_ (fun ht => ?_) (fun hf => ?_))
  · by_cases c : b = 0
    · simp [evT, opnd, ev, evo, evs, evC, evB, opnds, getS_0, getS_s, rdAll, rdO, Slot.frz, primF, ixF, stOf, atI_0, atI_1, atI_2, atI_3, setAt_1, setAt_2, setAt_3, cmpF, truD, biF, binF, freshP, isOwn, ex, eqF_int, addI, subI, c]
    · simp [evT, opnd, ev, evo, evs, evC, evB, opnds, getS_0, getS_s, rdAll, rdO, Slot.frz, primF, ixF, stOf, atI_0, atI_1, atI_2, atI_3, setAt_1, setAt_2, setAt_3, cmpF, truD, biF, binF, freshP, isOwn, ex, eqF_int, addI, subI, c]
  · simp only [Bool.and_eq_true, decide_eq_true_eq] at ht
    obtain ⟨rfl, hi⟩ := ht
    have hi' : i < ns.length := by omega
    have e : atI (ns.map D.int) (i : Int) = some (.int ns[i]) := atI_nat (by rw [List.getElem?_map, List.getElem?_eq_getElem hi']; rfl)
    generalize ns[i] = z at e
    refine ws_cons (ws_set (d := .int (if z < 0 then -z else z)) (ρ1 := [some (.own (stOf ns i 0 r)), some (.dat (.int m)), none, none]) ?_ ?_)
    · simp [evT, opnd, ev, evo, evs, evC, evB, opnds, getS_0, getS_s, rdAll, rdO, Slot.frz, primF, ixF, stOf, atI_0, atI_1, atI_2, atI_3, setAt_1, setAt_2, setAt_3, cmpF, truD, biF, binF, freshP, isOwn, ex, eqF_int, addI, subI, e]
    generalize hc : (if z < 0 then -z else z) = c
    have hc0 : 0 ≤ c := by
      subst hc
      split <;> omega
    refine ws_cons ⟨.nx, [some (.own (stOf ns (i + 1) 0 r)), some (.dat (.int m)), some (.dat (.int c)), none], ?_, ?_⟩
    · simp [evT, opnd, ev, evo, evs, evC, evB, opnds, getS_0, getS_s, rdAll, rdO, Slot.frz, primF, ixF, stOf, atI_0, atI_1, atI_2, atI_3, setAt_1, setAt_2, setAt_3, cmpF, truD, biF, binF, freshP, isOwn, ex, eqF_int, addI, subI]
    refine ws_cons (ws_ite (t := decide (1000000000000000000 ≤ c)) (ρ1 := [some (.own (stOf ns (i + 1) 0 r)), some (.dat (.int m)), some (.dat (.int c)), none]) ?_ (fun hb => ?_) (fun hb => ?_))
    · simp [evT, opnd, ev, evo, evs, evC, evB, opnds, getS_0, getS_s, rdAll, rdO, Slot.frz, primF, ixF, stOf, atI_0, atI_1, atI_2, atI_3, setAt_1, setAt_2, setAt_3, cmpF, truD, biF, binF, freshP, isOwn, ex, eqF_int, addI, subI, pwI]
    · refine ws_cons ⟨.nx, [some (.own (stOf ns (i + 1) c.toNat r)), some (.dat (.int m)), some (.dat (.int c)), none], ?_, ?_⟩
      · simp [evT, opnd, ev, evo, evs, evC, evB, opnds, getS_0, getS_s, rdAll, rdO, Slot.frz, primF, ixF, stOf, atI_0, atI_1, atI_2, atI_3, setAt_1, setAt_2, setAt_3, cmpF, truD, biF, binF, freshP, isOwn, ex, eqF_int, addI, subI, Int.toNat_of_nonneg hc0]
      exact ws_nil (ws_nil (T (i + 1) c.toNat r _ h0 h1))
    · simp only [decide_eq_false_iff_not] at hb
      have e0 : binI .Mult r 48271 = some (r * 48271) := mulI (a := 40) (b := 20) (by omega) (by decide) (by decide) (by decide) (by decide)
      refine ws_cons ⟨.nx, [some (.own (stOf ns (i + 1) 0 (stepR r c))), some (.dat (.int m)), some (.dat (.int c)), none], ?_, ?_⟩
      · simp [evT, opnd, ev, evo, evs, evC, evB, opnds, getS_0, getS_s, rdAll, rdO, Slot.frz, primF, ixF, stOf, atI_0, atI_1, atI_2, atI_3, setAt_1, setAt_2, setAt_3, cmpF, truD, biF, binF, freshP, isOwn, ex, eqF_int, addI, subI, e0, mdI, stepR]
      have g0 : 0 ≤ stepR r c := Int.le_add_one (Int.emod_nonneg _ (by decide))
      have g1 : stepR r c < 2147483648 := by
        have := Int.emod_lt_of_pos (r * 48271 + c) (show (0 : Int) < 2147483646 by decide)
        unfold stepR
        omega
      exact ws_nil (ws_nil (T (i + 1) 0 _ _ g0 g1))
  · exact ws_nil (T i b r none h0 h1)
end Py

set_option Elab.async false
set_option linter.all false
set_option maxRecDepth 100000
set_option maxHeartbeats 2000000
namespace Py
open PySem L2 Px
section
variable {G : Sig} {ρ : PEnv}
theorem opnds_nilS : opnds G [] ρ = .ok ([], ρ) := by rw [opnds]
theorem opnds_consS {a : Ar} {as : List Ar} : opnds G (a :: as) ρ = (opnd G a ρ).bind fun q => (opnds G as q.2).bind fun r => .ok (q.1 :: r.1, r.2) := by rw [opnds]
theorem opnd_slot {i : Nat} : opnd G (.slot i) ρ = match getS ρ i with | some _ => .ok (.slot i, ρ) | none => .bad := by rw [opnd] <;> rfl
theorem opnd_ex {e : E} : opnd G (.ex e) ρ = (ev G e ρ).bind fun q => .ok (.val q.1, q.2) := by rw [opnd]
theorem ev_var {i : Nat} : ev G (.var i) ρ = match getS ρ i with
    | some (.dat d) => .ok (d, ρ)
    | some (.own xs) => .ok (.lst xs, ρ.set i (some (.dat (.lst xs))))
    | _ => .bad := by rw [ev] <;> rfl
theorem ev_con {d : D} : ev G (.con d) ρ = .ok (d, ρ) := by rw [ev]
theorem ev_prim {p : P} {as : List Ar} : ev G (.prim p as) ρ = (opnds G as ρ).bind fun q => (Out.of (rdAll q.2 q.1)).bind fun ds => (Out.of (primF p ds)).bind fun d => .ok (d, q.2) := by rw [ev]
theorem ev_dsp {b : Bool} {es : List E} : ev G (.dsp b es) ρ = (evs G es ρ).bind fun q => if q.1.length ≤ lim then .ok (if b then .tup q.1 else .lst q.1, q.2) else .bad := by rw [ev]
theorem ev_bop {c : Bool} {es : List E} : ev G (.bop c es) ρ = evB G c es ρ := by rw [ev]
theorem ev_not {a : E} : ev G (.not a) ρ = (ev G a ρ).bind fun q => match q.1 with | .bl b => .ok (.bl (!b), q.2) | _ => .bad := by rw [ev] <;> rfl
theorem ev_ite {c : T} {a b : E} : ev G (.ite c a b) ρ = (evT G c ρ).bind fun q => match q.1 with | true => ev G a q.2 | false => ev G b q.2 := by rw [ev] <;> rfl
theorem ev_isi {a : Ar} {ty : IT} : ev G (.isi a ty) ρ = (opnd G a ρ).bind fun q => (Out.of (rdO q.2 q.1)).bind fun d => .ok (.bl (isiF d ty), q.2) := by rw [ev]
theorem ev_callS {f : Str} {as : List Ar} : ev G (.call f as) ρ = (opnds G as ρ).bind fun q => (Out.of (argS q.2 q.1)).bind fun ss => (callD G f ss).bind fun r => if (slotsOf q.1).Nodup then (Out.of (backA r.2 0 q.1 q.2)).bind fun ρ2 => .ok (r.1.frz, ρ2) else .bad := by
  rw [ev, callR_D]
  cases opnds G as ρ with
  | bad => rfl
  | ok q =>
    simp only [Out.bind_okS]
    cases argS q.2 q.1 with
    | none => rfl
    | some ss =>
      simp only [Out.of_someS, Out.bind_okS]
      cases callD G f ss with
      | bad => rfl
      | ok r =>
        simp only [Out.bind_okS]
        split
        · cases backA r.2 0 q.1 q.2 <;> rfl
        · rfl
theorem evs_nil : evs G [] ρ = .ok ([], ρ) := by rw [evs]
theorem evs_cons {e : E} {es : List E} : evs G (e :: es) ρ = (ev G e ρ).bind fun q => (evs G es q.2).bind fun r => .ok (q.1 :: r.1, r.2) := by rw [evs]
theorem evC_nil {c : Bool} : evC G c [] ρ = .ok (c, ρ) := by rw [evC]
theorem evC_cons {c : Bool} {t : T} {ts : List T} : evC G c (t :: ts) ρ = (evT G t ρ).bind fun q => if q.1 = c then evC G c ts q.2 else .ok (q.1, q.2) := by rw [evC]
theorem evB_one {c : Bool} {e : E} : evB G c [e] ρ = ev G e ρ := by
  rw [evB]
  cases ev G e ρ <;> rfl
theorem evB_more {c : Bool} {e e2 : E} {es : List E} : evB G c (e :: e2 :: es) ρ = (ev G e ρ).bind fun q => match q.1 with | .bl b => if b = c then evB G c (e2 :: es) q.2 else .ok (.bl b, q.2) | _ => .bad := by rw [evB] <;> rfl
theorem evT_bop {c : Bool} {ts : List T} : evT G (.bop c ts) ρ = evC G c ts ρ := by rw [evT]
theorem evT_not {a : T} : evT G (.not a) ρ = (evT G a ρ).bind fun q => .ok (!q.1, q.2) := by rw [evT]
theorem evT_val {a : Ar} : evT G (.val a) ρ = (opnd G a ρ).bind fun q => (Out.of (rdO q.2 q.1)).bind fun d => (Out.of (truD d)).bind fun t => .ok (t, q.2) := by rw [evT]
theorem evo_var {i : Nat} : evo G (.var i) ρ = match getS ρ i with
    | some (.dat d) => .ok (.dat d, ρ)
    | some (.own xs) => .ok (.own xs, ρ.set i none)
    | _ => .bad := rfl
theorem evo_call' {f : Str} {as : List Ar} : evo G (.call f as) ρ = (opnds G as ρ).bind fun q => (Out.of (argS q.2 q.1)).bind fun ss => (callD G f ss).bind fun r => if (slotsOf q.1).Nodup then (Out.of (backA r.2 0 q.1 q.2)).bind fun ρ2 => .ok (r.1, ρ2) else .bad := callR_D G f _ ρ
theorem evo_dsp {es : List E} : evo G (.dsp false es) ρ = (evs G es ρ).bind fun q => if q.1.length ≤ lim then .ok (.own q.1, q.2) else .bad := by
  show (ev G (.dsp false es) ρ).bind _ = _
  rw [ev_dsp]
  cases evs G es ρ with
  | bad => rfl
  | ok q =>
    simp only [Out.bind_okS]
    split <;> rfl
theorem evo_dspT {es : List E} : evo G (.dsp true es) ρ = (ev G (.dsp true es) ρ).bind fun q => .ok (.dat q.1, q.2) := rfl
theorem evo_prim {p : P} {as : List Ar} : evo G (.prim p as) ρ = (ev G (.prim p as) ρ).bind fun q => match freshP p, q.1 with
    | true, .lst xs => .ok (.own xs, q.2)
    | _, d => .ok (.dat d, q.2) := rfl
theorem evo_con {d : D} : evo G (.con d) ρ = .ok (.dat d, ρ) := by
  simp only [evo, ev_con, Out.bind_okS]
theorem evo_bop {c : Bool} {es : List E} : evo G (.bop c es) ρ = (evB G c es ρ).bind fun q => .ok (.dat q.1, q.2) := by
  show (ev G (.bop c es) ρ).bind _ = _
  rw [ev_bop]
theorem evo_not {a : E} : evo G (.not a) ρ = (ev G (.not a) ρ).bind fun q => .ok (.dat q.1, q.2) := rfl
theorem evo_ite {c : T} {a b : E} : evo G (.ite c a b) ρ = (ev G (.ite c a b) ρ).bind fun q => .ok (.dat q.1, q.2) := rfl
theorem evo_isi {a : Ar} {ty : IT} : evo G (.isi a ty) ρ = (ev G (.isi a ty) ρ).bind fun q => .ok (.dat q.1, q.2) := rfl
theorem evo_comp {vs : List Nat} {tg : Bool × List Nat} {ik : IK} {ies : List E} {conds : List T} {elt : E} {xs : List D} {ρ1 : PEnv} (h : ev G (.comp vs tg ik ies conds elt) ρ = .ok (.lst xs, ρ1)) : evo G (.comp vs tg ik ies conds elt) ρ = .ok (.own xs, ρ1) := by
  show (ev G (.comp vs tg ik ies conds elt) ρ).bind _ = _
  rw [h]; rfl
theorem rng_nat {n : Nat} (h : n ≤ lim) : itemsOf ρ .rng [.int (n : Int)] = some ((List.range n).map fun k => .int (k : Int)) := by
  have h2 : n ≤ 16777216 := h
  show (if okRng (n : Int) then some (rngItems 0 n) else none) = _
  rw [if_pos (by simp [okRng]; omega)]
  unfold rngItems
  simp
theorem rng_two {a n : Nat} (h : a ≤ lim) (h' : n ≤ lim) : itemsOf ρ .rng [.int (a : Int), .int (n : Int)] = some ((List.range (n - a)).map fun k => .int ((a + k : Nat) : Int)) := by
  have h2 : n ≤ 16777216 := h'
  have h3 : a ≤ 16777216 := h
  show (if okRng (a : Int) && okRng (n : Int) then some (rngItems a n) else none) = _
  rw [if_pos (by simp [okRng]; omega)]
  unfold rngItems
  rw [show ((n : Int) - a).toNat = n - a by omega]
  simp
theorem callV_D {f : Str} {ds : List D} {r : Slot} (h : callV G f ds = .ok r) : ∃ outs, callD G f (ds.map .dat) = .ok (r, outs) := by
  unfold callV at h
  obtain ⟨⟨s, outs⟩, h1, h2⟩ := Out.bind_ok h
  cases h2
  exact ⟨outs, h1⟩
end
/-! ### a draw -/
def fnd (ds : List Def) (f : Str) : Option Def := ds.find? fun d => d.nm == f
theorem find_run {ds : List Def} {k : Nat} {f : Str} {d : Def} (hf : fnd ds f = some d) : sigOf ds (k + 1) f = some (runDef (sigOf ds k) d) := by
  show (match ds.find? fun d => d.nm == f with | some d => some (runDef (sigOf ds k) d) | none => none) = _
  unfold fnd at hf
  rw [hf]
theorem pick_D {ds : List Def} {k : Nat} (hf : fnd ds "_law_pick" = some d_law_pick) {st : List D} (hst : Good st) {m : Int} (hm : 0 < m) (hm2 : m < 1073741824) :
    ∃ d st' outs, callD (sigOf ds (k + 1)) "_law_pick" [.own st, .dat (.int m)] = .ok (.dat (.int d), outs) ∧ getS outs 0 = some (.own st') ∧ Good st' ∧ 0 ≤ d ∧ d < m := by
  obtain ⟨ns, i, b, r, rfl, hl, h0, h1⟩ := hst
  obtain ⟨fl, ρ', e, d, st', rfl, g, gd, d0, d1⟩ := pick_body (sigOf ds k) (ns := ns) (i := i) (b := b) (r := r) hl h0 h1 hm hm2
  refine ⟨d, st', ρ', ?_, g, gd, d0, d1⟩
  unfold callD
  rw [find_run hf]
  show runDef (sigOf ds k) d_law_pick [.own (stOf ns i b r), .dat (.int m)] = _
  unfold runDef
  rw [if_pos ⟨rfl, by decide⟩]
  show Out.bind (exs (sigOf ds k) d_law_pick.body [some (.own (stOf ns i b r)), some (.dat (.int m)), none, none]) _ = _
  rw [e, Out.bind_okS]
  have : ownArgs [.own (stOf ns i b r), .dat (.int m)] (wrs d_law_pick.body) ρ' = true := by
    have w : wrs d_law_pick.body = [2, 3] := by decide
    rw [w]
    unfold ownArgs
    show ([0, 1].all _) = true
    simp [isOwn, g]
  rw [if_pos this]
/-- drawing, from a slot -/
theorem ev_pick {ds : List Def} {k : Nat} (hf : fnd ds "_law_pick" = some d_law_pick) {ρ : PEnv} {s : Nat} {st : List D} (hs : getS ρ s = some (.own st)) (hst : Good st) {m : Int} (hm : 0 < m) (hm2 : m < 1073741824) :
    ∃ d st', ev (sigOf ds (k + 1)) (.call "_law_pick" [.slot s, .ex (.con (.int m))]) ρ = .ok (.int d, ρ.set s (some (.own st'))) ∧ Good st' ∧ 0 ≤ d ∧ d < m := by
  obtain ⟨d, st', outs, h1, h2, h3, h4, h5⟩ := pick_D (k := k) hf hst hm hm2
  refine ⟨d, st', ?_, h3, h4, h5⟩
  simp only [ev_callS, opnds_consS, opnd_slot, opnd_ex, hs, Out.bind_okS, ev_con, opnds_nilS, argS, Option.map_some, Out.of_someS, h1, slotsOf, List.nodup_cons, List.nodup_nil, List.not_mem_nil, not_false_eq_true, and_self, if_true, backA, h2, Slot.frz]
/-! ### the same -/
def d_law_same : Def := { nm := "_law_same", N := ["told", "due", "k"], np := 2, body := [
    .ite (.val (.ex (.prim (.cmp .Is) [.slot 1, .ex (.con .non)]))) [
    .ret (.prim (.cmp .Is) [.slot 0, .ex (.con .non)])] [],
    .ite (.val (.ex (.isi (.slot 1) .bool))) [
    .ret (.bop true [.isi (.slot 0) .bool, .prim (.cmp .Eq) [.slot 0, .slot 1]])] [],
    .ite (.val (.ex (.isi (.slot 1) .int))) [
    .ret (.bop true [.isi (.slot 0) .int, .not (.isi (.slot 0) .bool), .prim (.cmp .Eq) [.slot 0, .slot 1]])] [],
    .ite (.val (.ex (.isi (.slot 1) .str))) [
    .ret (.bop true [.isi (.slot 0) .str, .prim (.cmp .Eq) [.slot 0, .slot 1]])] [],
    .ite (.bop false [.bop true [.val (.ex (.isi (.slot 1) .list)), .not (.val (.ex (.isi (.slot 0) .list)))], .bop true [.val (.ex (.isi (.slot 1) .tuple)), .not (.val (.ex (.isi (.slot 0) .tuple)))]]) [
    .ret (.con (.bl false))] [],
    .ret (.bop true [.prim (.cmp .Eq) [.ex (.prim (.bi .len) [.slot 0]), .ex (.prim (.bi .len) [.slot 1])], .prim (.cmp .Eq) [.ex (.comp [2] (false, [2]) .rng [.prim (.bi .len) [.slot 1]] [.not (.val (.ex (.call "_law_same" [.ex (.prim .ix [.slot 0, .slot 2]), .ex (.prim .ix [.slot 1, .slot 2])])))] (.con (.int 1))), .ex (.dsp false [])]])] }

def Pl : Nat → D → Prop
  | 0, _ => False
  | _ + 1, .int _ => True
  | _ + 1, .bl _ => True
  | _ + 1, .non => True
  | _ + 1, .str _ => False
  | n + 1, .tup xs => xs.length < lim ∧ ∀ x ∈ xs, Pl n x
  | n + 1, .lst xs => xs.length < lim ∧ ∀ x ∈ xs, Pl n x
theorem eqF_bl (i j : Bool) : eqF (.bl i) (.bl j) = some (decide (i = j)) := by
  cases i <;> cases j <;> decide
theorem eqF_nil : eqF (.lst []) (.lst []) = some true := by decide
def sameC : E := .comp [2] (false, [2]) .rng [.prim (.bi .len) [.slot 1]] [.not (.val (.ex (.call "_law_same" [.ex (.prim .ix [.slot 0, .slot 2]), .ex (.prim .ix [.slot 1, .slot 2])])))] (.con (.int 1))
theorem same_seq {G : Sig} {d : D} {xs : List D} (hd : d = .tup xs ∨ d = .lst xs) (hl : xs.length < lim) (hx : ∀ x ∈ xs, callV G "_law_same" [x, x] = .ok (.dat (.bl true))) :
    ev G sameC [some (.dat d), some (.dat d), none] = .ok (.lst [], [some (.dat d), some (.dat d), none]) := by
  unfold sameC
  refine (ev_compF (ρ1 := [some (.dat d), some (.dat d), none]) (ds := [.int (xs.length : Int)]) (L := List.range xs.length) (fun k => .int (k : Int)) (fun _ => .int 1) (fun _ => false) ?_ (rng_nat (Nat.le_of_lt hl)) rfl (by rw [List.length_range]; exact hl) (fun j hj => ?_)).trans ?_
  · rcases hd with rfl | rfl <;> simp [opnds_nilS, opnds_consS, opnd_slot, opnd_ex, ev_var, ev_con, ev_prim, ev_dsp, ev_bop, ev_not, ev_ite, ev_isi, ev_callS, evs_nil, evs_cons, evC_nil, evC_cons, evB_one, evB_more, evT_bop, evT_not, evT_val, evo_var, evo_call', evo_dsp, evo_prim, evo_con, evo_bop, evo_not, evo_ite, evo_isi, getS_0, getS_s, rdAll, rdO, Slot.frz, primF, ixF, cmpF, truD, biF, binF, freshP, isOwn, eqF_int, addI, subI, argS, backA, slotsOf, isiF]
  · have hj : j < xs.length := List.mem_range.mp hj
    have e : atI xs (j : Int) = some xs[j] := atI_nat (List.getElem?_eq_getElem hj)
    obtain ⟨outs, hc⟩ := callV_D (hx _ (List.getElem_mem hj))
    refine ⟨[some (.dat d), some (.dat d), some (.dat (.int (j : Int)))], [some (.dat d), some (.dat d), some (.dat (.int (j : Int)))], rfl, ?_, fun _ => ⟨rfl, rfl⟩, fun h => by cases h⟩
    rcases hd with rfl | rfl <;> simp [opnds_nilS, opnds_consS, opnd_slot, opnd_ex, ev_var, ev_con, ev_prim, ev_dsp, ev_bop, ev_not, ev_ite, ev_isi, ev_callS, evs_nil, evs_cons, evC_nil, evC_cons, evB_one, evB_more, evT_bop, evT_not, evT_val, evo_var, evo_call', evo_dsp, evo_prim, evo_con, evo_bop, evo_not, evo_ite, evo_isi, getS_0, getS_s, rdAll, rdO, Slot.frz, primF, ixF, cmpF, truD, biF, binF, freshP, isOwn, eqF_int, addI, subI, argS, backA, slotsOf, isiF, e] <;> (simp only [List.map_cons, List.map_nil] at hc; simp [hc, Slot.frz, truD, rdO])
  · rw [List.filter_eq_nil_iff.mpr (fun _ _ h => by cases h)]; rfl
theorem same_body {G : Sig} {d : D} {n : Nat} (hp : Pl (n + 1) d) (h : ∀ xs, d = .tup xs ∨ d = .lst xs → ev G sameC [some (.dat d), some (.dat d), none] = .ok (.lst [], [some (.dat d), some (.dat d), none])) :
    WSs G d_law_same.body [some (.dat d), some (.dat d), none] fun fl _ => fl = .ret (.dat (.bl true)) := by
  unfold d_law_same
  have seq : ∀ xs, d = .tup xs ∨ d = .lst xs → WSs G d_law_same.body [some (.dat d), some (.dat d), none] fun fl _ => fl = .ret (.dat (.bl true)) := by
    intro xs hd
    have hc := h xs hd
    have f0 : WSs G d_law_same.body [some (.dat d), some (.dat d), none] fun fl _ => fl = .ret (.dat (.bl true)) := by
      unfold d_law_same
      refine ws_cons (ws_ite (t := false) (ρ1 := [some (.dat d), some (.dat d), none]) ?_ (fun h => by cases h) (fun _ => ws_nil ?_))
      · rcases hd with rfl | rfl <;> simp [opnds_nilS, opnds_consS, opnd_slot, opnd_ex, ev_var, ev_con, ev_prim, ev_dsp, ev_bop, ev_not, ev_ite, ev_isi, ev_callS, evs_nil, evs_cons, evC_nil, evC_cons, evB_one, evB_more, evT_bop, evT_not, evT_val, evo_var, evo_call', evo_dsp, evo_prim, evo_con, evo_bop, evo_not, evo_ite, evo_isi, getS_0, getS_s, rdAll, rdO, Slot.frz, primF, ixF, cmpF, truD, biF, binF, freshP, isOwn, eqF_int, addI, subI, argS, backA, slotsOf, isiF]
      refine ws_cons (ws_ite (t := false) (ρ1 := [some (.dat d), some (.dat d), none]) ?_ (fun h => by cases h) (fun _ => ws_nil ?_))
      · rcases hd with rfl | rfl <;> simp [opnds_nilS, opnds_consS, opnd_slot, opnd_ex, ev_var, ev_con, ev_prim, ev_dsp, ev_bop, ev_not, ev_ite, ev_isi, ev_callS, evs_nil, evs_cons, evC_nil, evC_cons, evB_one, evB_more, evT_bop, evT_not, evT_val, evo_var, evo_call', evo_dsp, evo_prim, evo_con, evo_bop, evo_not, evo_ite, evo_isi, getS_0, getS_s, rdAll, rdO, Slot.frz, primF, ixF, cmpF, truD, biF, binF, freshP, isOwn, eqF_int, addI, subI, argS, backA, slotsOf, isiF]
      refine ws_cons (ws_ite (t := false) (ρ1 := [some (.dat d), some (.dat d), none]) ?_ (fun h => by cases h) (fun _ => ws_nil ?_))
      · rcases hd with rfl | rfl <;> simp [opnds_nilS, opnds_consS, opnd_slot, opnd_ex, ev_var, ev_con, ev_prim, ev_dsp, ev_bop, ev_not, ev_ite, ev_isi, ev_callS, evs_nil, evs_cons, evC_nil, evC_cons, evB_one, evB_more, evT_bop, evT_not, evT_val, evo_var, evo_call', evo_dsp, evo_prim, evo_con, evo_bop, evo_not, evo_ite, evo_isi, getS_0, getS_s, rdAll, rdO, Slot.frz, primF, ixF, cmpF, truD, biF, binF, freshP, isOwn, eqF_int, addI, subI, argS, backA, slotsOf, isiF]
      refine ws_cons (ws_ite (t := false) (ρ1 := [some (.dat d), some (.dat d), none]) ?_ (fun h => by cases h) (fun _ => ws_nil ?_))
      · rcases hd with rfl | rfl <;> simp [opnds_nilS, opnds_consS, opnd_slot, opnd_ex, ev_var, ev_con, ev_prim, ev_dsp, ev_bop, ev_not, ev_ite, ev_isi, ev_callS, evs_nil, evs_cons, evC_nil, evC_cons, evB_one, evB_more, evT_bop, evT_not, evT_val, evo_var, evo_call', evo_dsp, evo_prim, evo_con, evo_bop, evo_not, evo_ite, evo_isi, getS_0, getS_s, rdAll, rdO, Slot.frz, primF, ixF, cmpF, truD, biF, binF, freshP, isOwn, eqF_int, addI, subI, argS, backA, slotsOf, isiF]
      refine ws_cons (ws_ite (t := false) (ρ1 := [some (.dat d), some (.dat d), none]) ?_ (fun h => by cases h) (fun _ => ws_nil ?_))
      · rcases hd with rfl | rfl <;> simp [opnds_nilS, opnds_consS, opnd_slot, opnd_ex, ev_var, ev_con, ev_prim, ev_dsp, ev_bop, ev_not, ev_ite, ev_isi, ev_callS, evs_nil, evs_cons, evC_nil, evC_cons, evB_one, evB_more, evT_bop, evT_not, evT_val, evo_var, evo_call', evo_dsp, evo_prim, evo_con, evo_bop, evo_not, evo_ite, evo_isi, getS_0, getS_s, rdAll, rdO, Slot.frz, primF, ixF, cmpF, truD, biF, binF, freshP, isOwn, eqF_int, addI, subI, argS, backA, slotsOf, isiF]
      refine ws_cons (ws_ret (d := .dat (.bl true)) (ρ1 := [some (.dat d), some (.dat d), none]) ?_ rfl)
      have e1 : ev G (.prim (.cmp .Eq) [.ex (.prim (.bi .len) [.slot 0]), .ex (.prim (.bi .len) [.slot 1])]) [some (.dat d), some (.dat d), none] = .ok (.bl true, [some (.dat d), some (.dat d), none]) := by
        rcases hd with rfl | rfl <;> simp [opnds_nilS, opnds_consS, opnd_slot, opnd_ex, ev_var, ev_con, ev_prim, ev_dsp, ev_bop, ev_not, ev_ite, ev_isi, ev_callS, evs_nil, evs_cons, evC_nil, evC_cons, evB_one, evB_more, evT_bop, evT_not, evT_val, evo_var, evo_call', evo_dsp, evo_prim, evo_con, evo_bop, evo_not, evo_ite, evo_isi, getS_0, getS_s, rdAll, rdO, Slot.frz, primF, ixF, cmpF, truD, biF, binF, freshP, isOwn, eqF_int, addI, subI, argS, backA, slotsOf, isiF]
      have e2 : ev G (.prim (.cmp .Eq) [.ex sameC, .ex (.dsp false [])]) [some (.dat d), some (.dat d), none] = .ok (.bl true, [some (.dat d), some (.dat d), none]) := by
        rw [ev_prim, opnds_consS, opnd_ex, hc]
        simp [opnds_nilS, opnds_consS, opnd_slot, opnd_ex, ev_var, ev_con, ev_prim, ev_dsp, ev_bop, ev_not, ev_ite, ev_isi, ev_callS, evs_nil, evs_cons, evC_nil, evC_cons, evB_one, evB_more, evT_bop, evT_not, evT_val, evo_var, evo_call', evo_dsp, evo_prim, evo_con, evo_bop, evo_not, evo_ite, evo_isi, getS_0, getS_s, rdAll, rdO, Slot.frz, primF, ixF, cmpF, truD, biF, binF, freshP, isOwn, eqF_int, addI, subI, argS, backA, slotsOf, isiF, eqF_nil]
      rw [evo_bop, evB_more, e1]
      show Out.bind (evB G true [.prim (.cmp .Eq) [.ex sameC, .ex (.dsp false [])]] [some (.dat d), some (.dat d), none]) _ = _
      rw [evB_one, e2]
      rfl
    exact f0
  cases d with
  | non => exact ⟨.ret (.dat (.bl true)), [some (.dat .non), some (.dat .non), none], by simp [exs, ex, opnds_nilS, opnds_consS, opnd_slot, opnd_ex, ev_var, ev_con, ev_prim, ev_dsp, ev_bop, ev_not, ev_ite, ev_isi, ev_callS, evs_nil, evs_cons, evC_nil, evC_cons, evB_one, evB_more, evT_bop, evT_not, evT_val, evo_var, evo_call', evo_dsp, evo_prim, evo_con, evo_bop, evo_not, evo_ite, evo_isi, getS_0, getS_s, rdAll, rdO, Slot.frz, primF, ixF, cmpF, truD, biF, binF, freshP, isOwn, eqF_int, addI, subI, argS, backA, slotsOf, isiF], rfl⟩
  | bl b => exact ⟨.ret (.dat (.bl true)), [some (.dat (.bl b)), some (.dat (.bl b)), none], by simp [exs, ex, opnds_nilS, opnds_consS, opnd_slot, opnd_ex, ev_var, ev_con, ev_prim, ev_dsp, ev_bop, ev_not, ev_ite, ev_isi, ev_callS, evs_nil, evs_cons, evC_nil, evC_cons, evB_one, evB_more, evT_bop, evT_not, evT_val, evo_var, evo_call', evo_dsp, evo_prim, evo_con, evo_bop, evo_not, evo_ite, evo_isi, getS_0, getS_s, rdAll, rdO, Slot.frz, primF, ixF, cmpF, truD, biF, binF, freshP, isOwn, eqF_int, addI, subI, argS, backA, slotsOf, isiF, eqF_bl], rfl⟩
  | int i => exact ⟨.ret (.dat (.bl true)), [some (.dat (.int i)), some (.dat (.int i)), none], by simp [exs, ex, opnds_nilS, opnds_consS, opnd_slot, opnd_ex, ev_var, ev_con, ev_prim, ev_dsp, ev_bop, ev_not, ev_ite, ev_isi, ev_callS, evs_nil, evs_cons, evC_nil, evC_cons, evB_one, evB_more, evT_bop, evT_not, evT_val, evo_var, evo_call', evo_dsp, evo_prim, evo_con, evo_bop, evo_not, evo_ite, evo_isi, getS_0, getS_s, rdAll, rdO, Slot.frz, primF, ixF, cmpF, truD, biF, binF, freshP, isOwn, eqF_int, addI, subI, argS, backA, slotsOf, isiF], rfl⟩
  | str x => exact (show False from hp).elim
  | tup xs => exact seq xs (.inl rfl)
  | lst xs => exact seq xs (.inr rfl)
theorem same_refl {ds : List Def} (hf : fnd ds "_law_same" = some d_law_same) : ∀ (n k : Nat) (d : D), n ≤ k → Pl n d → callV (sigOf ds k) "_law_same" [d, d] = .ok (.dat (.bl true)) := by
  intro n
  induction n with
  | zero => exact fun _ _ _ h => h.elim
  | succ n IH =>
    intro k d hk hp
    obtain ⟨k, rfl⟩ : ∃ k', k = k' + 1 := ⟨k - 1, by omega⟩
    obtain ⟨fl, ρ', h1, rfl⟩ := same_body (G := sigOf ds k) hp fun xs hd => by
      rcases hd with rfl | rfl
      · exact same_seq (.inl rfl) hp.1 fun x hx => IH k x (by omega) (hp.2 x hx)
      · exact same_seq (.inr rfl) hp.1 fun x hx => IH k x (by omega) (hp.2 x hx)
    exact callV_run hf ⟨rfl, by decide⟩ ⟨_, _, h1, rfl⟩
end Py

set_option Elab.async false
set_option linter.all false
set_option maxRecDepth 100000
set_option maxHeartbeats 2000000
/-! tables, and lists made by comprehensions -/
namespace Py
open PySem L2 Px
theorem set_none {ρ : PEnv} {v : Nat} (h : ρ.set v none = ρ) : getS ρ v = none := by
  unfold getS
  rw [← h, List.getD_eq_getElem?_getD, List.getElem?_set]
  split
  · split <;> rfl
  · rename_i c; exact absurd rfl c
theorem ev_cmp1 {α : Type} {G : Sig} {ρ : PEnv} {v : Nat} {ik : IK} {ies : List E} {elt : E} {ds : List D} {L : List α} (φ g : α → D) (h1 : evs G ies ρ = .ok (ds, ρ)) (h2 : itemsOf ρ ik ds = some (L.map φ)) (hw : ρ.set v none = ρ) (hb : ∀ x, sameB ik ρ (ρ.set v x) = true) (hl : L.length < lim)
    (step : ∀ x ∈ L, ev G elt (ρ.set v (some (.dat (φ x)))) = .ok (g x, ρ.set v (some (.dat (φ x))))) : ev G (.comp [v] (false, [v]) ik ies [] elt) ρ = .ok (.lst (L.map g), ρ) := by
  have gn := set_none hw
  have w1 : wipeP ρ [v] = ρ := hw
  refine (ev_compM φ g h1 h2 (by simp [gn, isOwn]) hl fun x hx => ⟨ρ.set v (some (.dat (φ x))), ρ.set v (some (.dat (φ x))), by rw [w1]; rfl, step x hx, hb _, ?_⟩).trans ?_
  · rw [w1]
    show (ρ.set v (some (Slot.dat (φ x)))).set v none = ρ
    rw [List.set_set, hw]
  · rw [w1]
    show Out.ok (D.lst (L.map g), ρ.set v (getS ρ v)) = _
    rw [gn, hw]
theorem ev_tupC {G : Sig} {ρ ρ' : PEnv} {e : E} {xs : List D} (h : ev G e ρ = .ok (.lst xs, ρ')) : ev G (.prim (.bi .tuple) [.ex e]) ρ = .ok (.tup xs, ρ') := by
  rw [ev_prim, opnds_consS, opnd_ex, h]
  simp [opnds_nilS, rdAll, rdO, primF, biF]
theorem intsOf_map {α : Type} (f : α → Int) : ∀ L : List α, intsOf (L.map fun x => D.int (f x)) = some (L.map f)
  | [] => rfl
  | x :: xs => by
    show (intsOf (xs.map fun x => D.int (f x))).map (f x :: ·) = _
    rw [intsOf_map f xs]; rfl
theorem ev_sumC {α : Type} {G : Sig} {ρ ρ' : PEnv} {e : E} {L : List α} {f : α → Int} (h : ev G e ρ = .ok (.lst (L.map fun x => .int (f x)), ρ')) : ev G (.prim (.bi .sum) [.ex e]) ρ = .ok (.int (L.map f).sum, ρ') := by
  rw [ev_prim, opnds_consS, opnd_ex, h]
  simp [opnds_nilS, rdAll, rdO, primF, biF, intsOf_map]
theorem blsOf_map {α : Type} (f : α → Bool) : ∀ L : List α, blsOf (L.map fun x => D.bl (f x)) = some (L.map f)
  | [] => rfl
  | x :: xs => by
    show (blsOf (xs.map fun x => D.bl (f x))).map (f x :: ·) = _
    rw [blsOf_map f xs]; rfl
theorem ev_allC {α : Type} {G : Sig} {ρ ρ' : PEnv} {e : E} {L : List α} {f : α → Bool} (h : ev G e ρ = .ok (.lst (L.map fun x => .bl (f x)), ρ')) : ev G (.prim (.bi .all) [.ex e]) ρ = .ok (.bl (L.all f), ρ') := by
  rw [ev_prim, opnds_consS, opnd_ex, h]
  simp [opnds_nilS, rdAll, rdO, primF, biF, blsOf_map, List.all_map]
/-! ### tables -/
def row (m : Nat) (f : Nat → Nat → Int) (i : Nat) : D := .tup ((List.range m).map fun j => .int (f i j))
def enc (n m : Nat) (f : Nat → Nat → Int) : D := .tup ((List.range n).map (row m f))
theorem at_range {φ : Nat → D} {n i : Nat} (h : i < n) : atI ((List.range n).map φ) (i : Int) = some (φ i) := atI_nat (by rw [List.getElem?_map, List.getElem?_range h]; rfl)
theorem ix_enc {n m i : Nat} {f : Nat → Nat → Int} (h : i < n) : ixF (enc n m f) (.int (i : Int)) = some (row m f i) := at_range h
theorem ix_row {m i j : Nat} {f : Nat → Nat → Int} (h : j < m) : ixF (row m f i) (.int (j : Int)) = some (.int (f i j)) := at_range h
theorem enc_congr {n m : Nat} {f g : Nat → Nat → Int} (h : ∀ i, i < n → ∀ j, j < m → f i j = g i j) : enc n m f = enc n m g := by
  unfold enc row
  congr 1
  refine List.map_congr_left fun i hi => ?_
  congr 1
  refine List.map_congr_left fun j hj => ?_
  rw [h i (List.mem_range.mp hi) j (List.mem_range.mp hj)]
theorem pl_row {m i : Nat} {f : Nat → Nat → Int} (h : m < lim) : Pl 2 (row m f i) := by
  refine ⟨by simpa using h, fun x hx => ?_⟩
  obtain ⟨j, _, rfl⟩ := List.mem_map.mp hx
  trivial
theorem pl_enc {n m : Nat} {f : Nat → Nat → Int} (h : n < lim) (h' : m < lim) : Pl 3 (enc n m f) := by
  refine ⟨by simpa using h, fun x hx => ?_⟩
  obtain ⟨j, _, rfl⟩ := List.mem_map.mp hx
  exact pl_row h'
/-- a table made by two comprehensions over numbers -/
theorem ev_tab {G : Sig} {ρ : PEnv} {vi vj : Nat} {ei ej elt : E} {n m : Nat} (f : Nat → Nat → Int) (hn : n < lim) (hm : m < lim) (hwi : ρ.set vi none = ρ) (hwj : ∀ x, (ρ.set vi x).set vj none = ρ.set vi x)
    (hei : ev G ei ρ = .ok (.int n, ρ)) (hej : ∀ i, i < n → ev G ej (ρ.set vi (some (.dat (.int (i : Int))))) = .ok (.int m, ρ.set vi (some (.dat (.int (i : Int))))))
    (helt : ∀ i, i < n → ∀ j, j < m → ev G elt ((ρ.set vi (some (.dat (.int (i : Int))))).set vj (some (.dat (.int (j : Int))))) = .ok (.int (f i j), (ρ.set vi (some (.dat (.int (i : Int))))).set vj (some (.dat (.int (j : Int)))))) :
    ev G (.prim (.bi .tuple) [.ex (.comp [vi] (false, [vi]) .rng [ei] [] (.prim (.bi .tuple) [.ex (.comp [vj] (false, [vj]) .rng [ej] [] elt)]))]) ρ = .ok (enc n m f, ρ) := by
  refine ev_tupC (ev_cmp1 (L := List.range n) (fun i => .int (i : Int)) (row m f) (by rw [evs_cons, hei]; simp [evs_nil]) (rng_nat (Nat.le_of_lt hn)) hwi (fun _ => rfl) (by simpa using hn) fun i hi => ?_)
  have hi := List.mem_range.mp hi
  refine ev_tupC (ev_cmp1 (L := List.range m) (fun j => .int (j : Int)) (fun j => .int (f i j)) (by rw [evs_cons, hej i hi]; simp [evs_nil]) (rng_nat (Nat.le_of_lt hm)) (hwj _) (fun _ => rfl) (by simpa using hm) fun j hj => helt i hi j (List.mem_range.mp hj))
/-- a table made of a table's rows -/
theorem ev_rows {G : Sig} {ρ : PEnv} {vi vj : Nat} {ei elt : E} {n m : Nat} {g : Nat → Nat → Int} (f : Nat → Nat → Int) (hn : n < lim) (hm : m < lim) (hwi : ρ.set vi none = ρ) (hwj : ∀ x, (ρ.set vi x).set vj none = ρ.set vi x)
    (hei : ev G ei ρ = .ok (enc n m g, ρ)) (hr : ∀ x, ev G (.var vi) (ρ.set vi (some (.dat x))) = .ok (x, ρ.set vi (some (.dat x))))
    (helt : ∀ i, i < n → ∀ j, j < m → ev G elt ((ρ.set vi (some (.dat (row m g i)))).set vj (some (.dat (.int (g i j))))) = .ok (.int (f i j), (ρ.set vi (some (.dat (row m g i)))).set vj (some (.dat (.int (g i j)))))) :
    ev G (.prim (.bi .tuple) [.ex (.comp [vi] (false, [vi]) .seq [ei] [] (.prim (.bi .tuple) [.ex (.comp [vj] (false, [vj]) .seq [.var vi] [] elt)]))]) ρ = .ok (enc n m f, ρ) := by
  refine ev_tupC (ev_cmp1 (L := List.range n) (row m g) (row m f) (by rw [evs_cons, hei]; simp [evs_nil]; rfl) rfl hwi (fun _ => rfl) (by simpa using hn) fun i hi => ?_)
  have hi := List.mem_range.mp hi
  refine ev_tupC (ev_cmp1 (L := List.range m) (fun j => .int (g i j)) (fun j => .int (f i j)) (by rw [evs_cons, hr]; simp [evs_nil]; rfl) rfl (hwj _) (fun _ => rfl) (by simpa using hm) fun j hj => helt i hi j (List.mem_range.mp hj))
end Py

set_option Elab.async false
set_option linter.all false
set_option maxRecDepth 100000
set_option maxHeartbeats 2000000
/-! equality of data -/
namespace Py
open PySem L2 Px
theorem pyAll_ok {n : Nat} : ∀ xs : List D, (∀ x ∈ xs, PyData.canLay0 x.py = true ∧ PyData.depth x.py ≤ n) → PyData.canLayAll0 (D.py.pyAll xs) = true ∧ PyData.depthAll (D.py.pyAll xs) ≤ n
  | [], _ => ⟨rfl, Nat.zero_le _⟩
  | x :: xs, h => by
    obtain ⟨a, b⟩ := h x (List.mem_cons_self ..)
    obtain ⟨c, d⟩ := pyAll_ok xs fun y hy => h y (List.mem_cons_of_mem _ hy)
    refine ⟨?_, ?_⟩
    · show (PyData.canLay0 x.py && PyData.canLayAll0 (D.py.pyAll xs)) = true
      rw [a, c]; rfl
    · show max (PyData.depth x.py) (PyData.depthAll (D.py.pyAll xs)) ≤ n
      omega
theorem py_ok : ∀ (n : Nat) (d : D), Pl n d → PyData.canLay0 d.py = true ∧ PyData.depth d.py ≤ n := by
  intro n
  induction n with
  | zero => exact fun _ h => h.elim
  | succ n ih =>
    intro d h
    cases d with
    | non => exact ⟨rfl, Nat.zero_le _⟩
    | bl b => exact ⟨rfl, Nat.zero_le _⟩
    | int i => exact ⟨rfl, Nat.zero_le _⟩
    | str x => exact (show False from h).elim
    | tup xs =>
      have h : xs.length < lim ∧ ∀ x ∈ xs, Pl n x := h
      obtain ⟨a, b⟩ := pyAll_ok xs fun x hx => ih x (h.2 x hx)
      exact ⟨a, Nat.succ_le_succ b⟩
    | lst xs =>
      have h : xs.length < lim ∧ ∀ x ∈ xs, Pl n x := h
      obtain ⟨a, b⟩ := pyAll_ok xs fun x hx => ih x (h.2 x hx)
      exact ⟨a, Nat.succ_le_succ b⟩
theorem shaped_ok {n : Nat} {d : D} (h : Pl n d) (hn : n ≤ 64) : SeqAt.shaped d.py = true := by
  obtain ⟨a, b⟩ := py_ok n d h
  unfold SeqAt.shaped
  rw [a, Bool.true_and]
  exact decide_eq_true (by omega)
theorem eqvAll_refl : ∀ xs : List D, (∀ x ∈ xs, PyData.eqv x.py x.py = true) → PyData.eqvAll (D.py.pyAll xs) (D.py.pyAll xs) = true
  | [], _ => rfl
  | x :: xs, h => by
    show (PyData.eqv x.py x.py && PyData.eqvAll (D.py.pyAll xs) (D.py.pyAll xs)) = true
    rw [h x (List.mem_cons_self ..), eqvAll_refl xs fun y hy => h y (List.mem_cons_of_mem _ hy)]; rfl
theorem eqv_refl : ∀ (n : Nat) (d : D), Pl n d → PyData.eqv d.py d.py = true := by
  intro n
  induction n with
  | zero => exact fun _ h => h.elim
  | succ n ih =>
    intro d h
    cases d with
    | non => rfl
    | bl b => cases b <;> rfl
    | int i => exact (show (i == i) = true by simp)
    | str x => exact (show False from h).elim
    | tup xs => exact eqvAll_refl xs fun x hx => ih x ((show xs.length < lim ∧ ∀ x ∈ xs, Pl n x from h).2 x hx)
    | lst xs => exact eqvAll_refl xs fun x hx => ih x ((show xs.length < lim ∧ ∀ x ∈ xs, Pl n x from h).2 x hx)
theorem eqF_refl {n : Nat} {d : D} (h : Pl n d) (hn : n ≤ 64) : eqF d d = some true := by
  unfold eqF
  rw [if_pos ⟨shaped_ok h hn, shaped_ok h hn⟩, eqv_refl n d h]
/-- tables: equal as lists -/
theorem eqvAll_ints {α : Type} (f g : α → Int) : ∀ L : List α, PyData.eqvAll (D.py.pyAll (L.map fun x => D.int (f x))) (D.py.pyAll (L.map fun x => D.int (g x))) = L.all fun x => decide (f x = g x)
  | [] => rfl
  | x :: xs => by
    show ((f x == g x) && PyData.eqvAll (D.py.pyAll (xs.map fun x => D.int (f x))) (D.py.pyAll (xs.map fun x => D.int (g x)))) = _
    rw [eqvAll_ints f g xs, List.all_cons]; rfl
theorem eqvAll_rows (m : Nat) (f g : Nat → Nat → Int) : ∀ L : List Nat, PyData.eqvAll (D.py.pyAll (L.map (row m f))) (D.py.pyAll (L.map (row m g))) = L.all fun i => (List.range m).all fun j => decide (f i j = g i j)
  | [] => rfl
  | x :: xs => by
    show (PyData.eqvAll (D.py.pyAll ((List.range m).map fun j => D.int (f x j))) (D.py.pyAll ((List.range m).map fun j => D.int (g x j))) && PyData.eqvAll (D.py.pyAll (xs.map (row m f))) (D.py.pyAll (xs.map (row m g)))) = _
    rw [eqvAll_rows m f g xs, eqvAll_ints, List.all_cons]
theorem eqF_enc {n m : Nat} {f g : Nat → Nat → Int} (hn : n < lim) (hm : m < lim) : eqF (enc n m f) (enc n m g) = some ((List.range n).all fun i => (List.range m).all fun j => decide (f i j = g i j)) := by
  unfold eqF
  rw [if_pos ⟨shaped_ok (pl_enc hn hm) (by decide), shaped_ok (pl_enc hn hm) (by decide)⟩]
  congr 1
  exact eqvAll_rows m f g _
end Py

set_option linter.all false
set_option maxRecDepth 100000
namespace LW
open PySem Px
def d_is_square : Def := { nm := "is_square", N := ["value", "row", "one"], np := 1, body := [
    .ite (.not (.val (.ex (.isi (.slot 0) .tuple)))) [
    .ret (.con (.bl false))] [],
    .loop (false, [1]) .seq [.var 0] [
    .ite (.bop false [.not (.val (.ex (.isi (.slot 1) .tuple))), .val (.ex (.prim (.cmp .NotEq) [.ex (.prim (.bi .len) [.slot 1]), .ex (.prim (.bi .len) [.slot 0])]))]) [
    .ret (.con (.bl false))] [],
    .ite (.not (.val (.ex (.prim (.bi .all) [.ex (.comp [2] (false, [2]) .seq [.var 1] [] (.bop true [.isi (.slot 2) .int, .not (.isi (.slot 2) .bool)]))])))) [
    .ret (.con (.bl false))] []],
    .ret (.con (.bl true))] }
def d_unit_table : Def := { nm := "unit_table", N := ["many", "i", "j"], np := 1, body := [
    .ret (.prim (.bi .tuple) [.ex (.comp [1] (false, [1]) .rng [.var 0] [] (.prim (.bi .tuple) [.ex (.comp [2] (false, [2]) .rng [.var 0] [] (.prim (.bi .int) [.ex (.prim (.cmp .Eq) [.slot 1, .slot 2])]))]))])] }
def d_times_table : Def := { nm := "times_table", N := ["first", "second", "wide", "found", "row", "j", "k"], np := 2, body := [
    .set false 2 (.ite (.val (.ex (.prim (.cmp .Gt) [.ex (.prim (.bi .len) [.slot 1]), .ex (.con (.int 0))]))) (.prim (.bi .len) [.ex (.prim .ix [.slot 1, .ex (.con (.int 0))])]) (.con (.int 0))),
    .set true 3 (.dsp false []),
    .loop (false, [4]) .seq [.var 0] [
    .app 3 (.prim (.bi .tuple) [.ex (.comp [5] (false, [5]) .rng [.var 2] [] (.prim (.bi .sum) [.ex (.comp [6] (false, [6]) .rng [.prim (.bi .len) [.slot 4]] [] (.prim (.bin .Mult) [.ex (.prim .ix [.slot 4, .slot 6]), .ex (.prim .ix [.ex (.prim .ix [.slot 1, .slot 6]), .slot 5])]))]))])],
    .ret (.prim (.bi .tuple) [.slot 3])] }
def d_plus_table : Def := { nm := "plus_table", N := ["first", "second", "i", "j"], np := 2, body := [
    .ret (.prim (.bi .tuple) [.ex (.comp [2] (false, [2]) .rng [.prim (.bi .len) [.slot 0]] [] (.prim (.bi .tuple) [.ex (.comp [3] (false, [3]) .rng [.prim (.bi .len) [.ex (.prim .ix [.slot 0, .slot 2])]] [] (.prim (.bin .Add) [.ex (.prim .ix [.ex (.prim .ix [.slot 0, .slot 2]), .slot 3]), .ex (.prim .ix [.ex (.prim .ix [.slot 1, .slot 2]), .slot 3])]))]))])] }
def d_scaled_table : Def := { nm := "scaled_table", N := ["table", "number", "row", "one"], np := 2, body := [
    .ret (.prim (.bi .tuple) [.ex (.comp [2] (false, [2]) .seq [.var 0] [] (.prim (.bi .tuple) [.ex (.comp [3] (false, [3]) .seq [.var 2] [] (.prim (.bin .Mult) [.slot 1, .slot 3]))]))])] }
def d_power_table : Def := { nm := "power_table", N := ["table", "many", "found", "square"], np := 2, body := [
    .par false 2 false 3 (.call "unit_table" [.ex (.prim (.bi .len) [.slot 0])]) (.var 0),
    .whil (.val (.ex (.prim (.cmp .Gt) [.slot 1, .ex (.con (.int 0))]))) [
    .ite (.val (.ex (.prim (.cmp .Eq) [.ex (.prim (.bin .BitAnd) [.slot 1, .ex (.con (.int 1))]), .ex (.con (.int 1))]))) [
    .set false 2 (.call "times_table" [.ex (.var 2), .ex (.var 3)])] [],
    .set false 3 (.call "times_table" [.ex (.var 3), .ex (.var 3)]),
    .aug 1 .RShift (.con (.int 1))],
    .ret (.var 2)] }
def d_trace_of : Def := { nm := "trace_of", N := ["table", "k"], np := 1, body := [
    .ret (.prim (.bi .sum) [.ex (.comp [1] (false, [1]) .rng [.prim (.bi .len) [.slot 0]] [] (.prim .ix [.ex (.prim .ix [.slot 0, .slot 1]), .slot 1]))])] }
def d_flipped_table : Def := { nm := "flipped_table", N := ["table", "j", "i"], np := 1, body := [
    .ret (.prim (.bi .tuple) [.ex (.comp [1] (false, [1]) .rng [.prim (.bi .len) [.slot 0]] [] (.prim (.bi .tuple) [.ex (.comp [2] (false, [2]) .rng [.prim (.bi .len) [.slot 0]] [] (.prim .ix [.ex (.prim .ix [.slot 0, .slot 2]), .slot 1]))]))])] }
def d_characteristic : Def := { nm := "characteristic", N := ["table", "many", "k", "found", "here", "number"], np := 1, body := [
    .set false 1 (.prim (.bi .len) [.slot 0]),
    .par true 3 false 4 (.dsp false [.con (.int 1)]) (.call "unit_table" [.ex (.var 1)]),
    .loop (false, [2]) .rng [.con (.int 1), .prim (.bin .Add) [.slot 1, .ex (.con (.int 1))]] [
    .set false 4 (.call "times_table" [.ex (.var 0), .ex (.var 4)]),
    .set false 5 (.prim (.bin .Sub) [.ex (.con (.int 0)), .ex (.prim (.bin .FloorDiv) [.ex (.call "trace_of" [.ex (.var 4)]), .slot 2])]),
    .app 3 (.var 5),
    .set false 4 (.call "plus_table" [.ex (.var 4), .ex (.call "scaled_table" [.ex (.call "unit_table" [.ex (.var 1)]), .ex (.var 5)])])],
    .ret (.prim (.bi .tuple) [.slot 3])] }
def d_determinant_of : Def := { nm := "determinant_of", N := ["table", "told"], np := 1, body := [
    .set false 1 (.call "characteristic" [.ex (.var 0)]),
    .ret (.ite (.val (.ex (.prim (.cmp .Eq) [.ex (.prim (.bin .Mod) [.ex (.prim (.bi .int) [.ex (.prim (.bi .len) [.slot 0])]), .ex (.con (.int 2))]), .ex (.con (.int 0))]))) (.prim .ix [.slot 1, .ex (.prim .neg [.ex (.con (.int 1))])]) (.prim (.bin .Sub) [.ex (.con (.int 0)), .ex (.prim .ix [.slot 1, .ex (.prim .neg [.ex (.con (.int 1))])])]))] }
def d_traces : Def := { nm := "traces", N := ["table", "most", "k", "found", "here"], np := 2, body := [
    .par true 3 false 4 (.dsp false []) (.var 0),
    .loop (false, [2]) .rng [.var 1] [
    .app 3 (.call "trace_of" [.ex (.var 4)]),
    .set false 4 (.call "times_table" [.ex (.var 4), .ex (.var 0)])],
    .ret (.var 3)] }
def d_traces_by_numbers : Def := { nm := "traces_by_numbers", N := ["numbers", "most", "found", "k", "total", "j"], np := 2, body := [
    .set true 2 (.dsp false []),
    .loop (false, [3]) .rng [.con (.int 1), .prim (.bin .Add) [.slot 1, .ex (.con (.int 1))]] [
    .set false 4 (.ite (.val (.ex (.prim (.cmp .Lt) [.slot 3, .ex (.prim (.bi .len) [.slot 0])]))) (.prim (.bin .Sub) [.ex (.con (.int 0)), .ex (.prim (.bin .Mult) [.slot 3, .ex (.prim .ix [.slot 0, .slot 3])])]) (.con (.int 0))),
    .loop (false, [5]) .rng [.con (.int 1), .var 3] [
    .ite (.val (.ex (.prim (.cmp .Lt) [.slot 5, .ex (.prim (.bi .len) [.slot 0])]))) [
    .aug 4 .Sub (.prim (.bin .Mult) [.ex (.prim .ix [.slot 0, .slot 5]), .ex (.prim .ix [.slot 2, .ex (.prim (.bin .Sub) [.ex (.prim (.bin .Sub) [.slot 3, .slot 5]), .ex (.con (.int 1))])])])] []],
    .app 2 (.var 4)],
    .ret (.var 2)] }
def d_is_nilpotent : Def := { nm := "is_nilpotent", N := ["table", "one"], np := 1, body := [
    .ret (.prim (.bi .all) [.ex (.comp [1] (false, [1]) .seq [.prim (.sl true false) [.ex (.call "characteristic" [.ex (.var 0)]), .ex (.con (.int 1))]] [] (.prim (.cmp .Eq) [.slot 1, .ex (.con (.int 0))]))])] }
def d_law_start : Def := { nm := "_law_start", N := ["script"], np := 1, body := [
    .ret (.dsp false [.var 0, .con (.int 0), .con (.int 0), .con (.int 7)])] }
def d_law_pick : Def := { nm := "_law_pick", N := ["state", "limit", "cell", "drawn"], np := 2, body := [
    .ite (.bop true [.val (.ex (.prim (.cmp .Eq) [.ex (.prim .ix [.slot 0, .ex (.con (.int 2))]), .ex (.con (.int 0))])), .val (.ex (.prim (.cmp .Lt) [.ex (.prim .ix [.slot 0, .ex (.con (.int 1))]), .ex (.prim (.bi .len) [.ex (.prim .ix [.slot 0, .ex (.con (.int 0))])])]))]) [
    .set false 2 (.prim (.bi .abs) [.ex (.prim .ix [.ex (.prim .ix [.slot 0, .ex (.con (.int 0))]), .ex (.prim .ix [.slot 0, .ex (.con (.int 1))])])]),
    .seti 0 (.con (.int 1)) (.prim (.bin .Add) [.ex (.prim .ix [.slot 0, .ex (.con (.int 1))]), .ex (.con (.int 1))]),
    .ite (.val (.ex (.prim (.cmp .GtE) [.slot 2, .ex (.prim (.bin .Pow) [.ex (.con (.int 10)), .ex (.con (.int 18))])]))) [
    .seti 0 (.con (.int 2)) (.var 2)] [
    .seti 0 (.con (.int 3)) (.prim (.bin .Add) [.ex (.prim (.bin .Mod) [.ex (.prim (.bi .int) [.ex (.prim (.bin .Add) [.ex (.prim (.bin .Mult) [.ex (.prim .ix [.slot 0, .ex (.con (.int 3))]), .ex (.con (.int 48271))]), .slot 2])]), .ex (.con (.int 2147483646))]), .ex (.con (.int 1))])]] [],
    .ite (.val (.ex (.prim (.cmp .Gt) [.ex (.prim .ix [.slot 0, .ex (.con (.int 2))]), .ex (.con (.int 0))]))) [
    .set false 3 (.prim (.bin .Mod) [.ex (.prim (.bi .int) [.ex (.prim .ix [.slot 0, .ex (.con (.int 2))])]), .slot 1]),
    .seti 0 (.con (.int 2)) (.prim (.bin .FloorDiv) [.ex (.prim .ix [.slot 0, .ex (.con (.int 2))]), .slot 1]),
    .ret (.var 3)] [],
    .seti 0 (.con (.int 3)) (.prim (.bin .Mod) [.ex (.prim (.bi .int) [.ex (.prim (.bin .Mult) [.ex (.prim .ix [.slot 0, .ex (.con (.int 3))]), .ex (.con (.int 48271))])]), .ex (.con (.int 2147483647))]),
    .ret (.prim (.bin .Mod) [.ex (.prim (.bi .int) [.ex (.prim (.bin .Add) [.ex (.prim (.bin .FloorDiv) [.ex (.prim .ix [.slot 0, .ex (.con (.int 3))]), .ex (.con (.int 5))]), .ex (.prim (.bin .Mod) [.ex (.prim (.bi .int) [.ex (.prim (.bin .Mult) [.ex (.prim .ix [.slot 0, .ex (.con (.int 3))]), .ex (.prim .ix [.slot 0, .ex (.con (.int 3))])])]), .ex (.con (.int 2147483629))])])]), .slot 1])] }
def d_law_same : Def := { nm := "_law_same", N := ["told", "due", "k"], np := 2, body := [
    .ite (.val (.ex (.prim (.cmp .Is) [.slot 1, .ex (.con .non)]))) [
    .ret (.prim (.cmp .Is) [.slot 0, .ex (.con .non)])] [],
    .ite (.val (.ex (.isi (.slot 1) .bool))) [
    .ret (.bop true [.isi (.slot 0) .bool, .prim (.cmp .Eq) [.slot 0, .slot 1]])] [],
    .ite (.val (.ex (.isi (.slot 1) .int))) [
    .ret (.bop true [.isi (.slot 0) .int, .not (.isi (.slot 0) .bool), .prim (.cmp .Eq) [.slot 0, .slot 1]])] [],
    .ite (.val (.ex (.isi (.slot 1) .str))) [
    .ret (.bop true [.isi (.slot 0) .str, .prim (.cmp .Eq) [.slot 0, .slot 1]])] [],
    .ite (.bop false [.bop true [.val (.ex (.isi (.slot 1) .list)), .not (.val (.ex (.isi (.slot 0) .list)))], .bop true [.val (.ex (.isi (.slot 1) .tuple)), .not (.val (.ex (.isi (.slot 0) .tuple)))]]) [
    .ret (.con (.bl false))] [],
    .ret (.bop true [.prim (.cmp .Eq) [.ex (.prim (.bi .len) [.slot 0]), .ex (.prim (.bi .len) [.slot 1])], .prim (.cmp .Eq) [.ex (.comp [2] (false, [2]) .rng [.prim (.bi .len) [.slot 1]] [.not (.val (.ex (.call "_law_same" [.ex (.prim .ix [.slot 0, .slot 2]), .ex (.prim .ix [.slot 1, .slot 2])])))] (.con (.int 1))), .ex (.dsp false [])]])] }
def d_law_table : Def := { nm := "_law_table", N := ["state", "many", "wide", "i", "j"], np := 3, body := [
    .ret (.prim (.bi .tuple) [.ex (.comp [3] (false, [3]) .rng [.var 1] [] (.prim (.bi .tuple) [.ex (.comp [4] (false, [4]) .rng [.var 2] [] (.prim (.bin .Sub) [.ex (.call "_law_pick" [.slot 0, .ex (.con (.int 7))]), .ex (.con (.int 3))]))]))])] }
def d_law_product : Def := { nm := "_law_product", N := ["first", "second", "wide", "row", "j", "k"], np := 3, body := [
    .ret (.prim (.bi .tuple) [.ex (.comp [3] (false, [3]) .seq [.var 0] [] (.prim (.bi .tuple) [.ex (.comp [4] (false, [4]) .rng [.var 2] [] (.prim (.bi .sum) [.ex (.comp [5] (false, [5]) .rng [.prim (.bi .len) [.slot 1]] [] (.prim (.bin .Mult) [.ex (.prim .ix [.slot 3, .slot 5]), .ex (.prim .ix [.ex (.prim .ix [.slot 1, .slot 5]), .slot 4])]))]))]))])] }
def d_law_determinant : Def := { nm := "_law_determinant", N := ["rows", "total", "j", "rest", "row"], np := 1, body := [
    .ite (.val (.ex (.prim (.cmp .Eq) [.ex (.prim (.bi .len) [.slot 0]), .ex (.con (.int 0))]))) [
    .ret (.con (.int 1))] [],
    .set false 1 (.con (.int 0)),
    .loop (false, [2]) .rng [.prim (.bi .len) [.slot 0]] [
    .set false 3 (.comp [4] (false, [4]) .seq [.prim (.sl true false) [.slot 0, .ex (.con (.int 1))]] [] (.prim (.bin .Add) [.ex (.prim (.sl false true) [.slot 4, .ex (.var 2)]), .ex (.prim (.sl true false) [.slot 4, .ex (.prim (.bin .Add) [.slot 2, .ex (.con (.int 1))])])])),
    .set false 1 (.prim (.bin .Add) [.slot 1, .ex (.prim (.bin .Mult) [.ex (.prim (.bin .Mult) [.ex (.prim .ix [.ex (.prim .ix [.slot 0, .ex (.con (.int 0))]), .slot 2]), .ex (.prim .ix [.ex (.dsp false [.con (.int 1), .prim .neg [.ex (.con (.int 1))]]), .ex (.prim (.bin .Mod) [.ex (.prim (.bi .int) [.slot 2]), .ex (.con (.int 2))])])]), .ex (.call "_law_determinant" [.ex (.var 3)])])])],
    .ret (.var 1)] }
def d_law : Def := { nm := "law", N := ["script", "state", "many", "table", "other", "unit", "wide", "tall", "first", "second", "number", "powers", "k", "exponent", "diagonal", "numbers", "x", "zero", "odd", "value", "one", "rows", "power", "i", "row", "j"], np := 1, body := [
    .set true 1 (.call "_law_start" [.ex (.var 0)]),
    .set false 2 (.call "_law_pick" [.slot 1, .ex (.con (.int 5))]),
    .set false 3 (.call "_law_table" [.slot 1, .ex (.var 2), .ex (.var 2)]),
    .set false 4 (.call "_law_table" [.slot 1, .ex (.var 2), .ex (.var 2)]),
    .ite (.val (.ex (.prim (.cmp .Eq) [.ex (.call "_law_pick" [.slot 1, .ex (.con (.int 3))]), .ex (.con (.int 0))]))) [
    .set false 3 (.prim (.bi .tuple) [.ex (.comp [23] (false, [23]) .rng [.var 2] [] (.prim (.bi .tuple) [.ex (.comp [25] (false, [25]) .rng [.var 2] [] (.prim (.bin .Mult) [.ex (.prim .ix [.ex (.prim .ix [.slot 3, .slot 23]), .slot 25]), .ex (.prim (.bi .int) [.ex (.prim (.cmp .Gt) [.slot 25, .slot 23])])]))]))])] [],
    .set false 5 (.prim (.bi .tuple) [.ex (.comp [23] (false, [23]) .rng [.var 2] [] (.prim (.bi .tuple) [.ex (.comp [25] (false, [25]) .rng [.var 2] [] (.prim (.bi .int) [.ex (.prim (.cmp .Eq) [.slot 23, .slot 25])]))]))]),
    .ite (.bop false [.not (.val (.ex (.call "_law_same" [.ex (.call "unit_table" [.ex (.var 2)]), .ex (.var 5)]))), .not (.val (.ex (.call "_law_same" [.ex (.call "times_table" [.ex (.var 3), .ex (.var 4)]), .ex (.call "_law_product" [.ex (.var 3), .ex (.var 4), .ex (.var 2)])])))]) [
    .ret (.con (.bl false))] [],
    .set false 6 (.prim (.bin .Add) [.ex (.con (.int 1)), .ex (.call "_law_pick" [.slot 1, .ex (.con (.int 3))])]),
    .set false 7 (.prim (.bin .Add) [.ex (.con (.int 1)), .ex (.call "_law_pick" [.slot 1, .ex (.con (.int 3))])]),
    .set false 8 (.call "_law_table" [.slot 1, .ex (.var 6), .ex (.var 7)]),
    .set false 9 (.call "_law_table" [.slot 1, .ex (.var 7), .ex (.var 6)]),
    .ite (.not (.val (.ex (.call "_law_same" [.ex (.call "times_table" [.ex (.var 8), .ex (.var 9)]), .ex (.call "_law_product" [.ex (.var 8), .ex (.var 9), .ex (.var 6)])])))) [
    .ret (.con (.bl false))] [],
    .set false 10 (.prim (.bin .Sub) [.ex (.call "_law_pick" [.slot 1, .ex (.con (.int 9))]), .ex (.con (.int 4))]),
    .ite (.val (.ex (.prim (.cmp .NotEq) [.ex (.call "plus_table" [.ex (.var 3), .ex (.var 4)]), .ex (.prim (.bi .tuple) [.ex (.comp [23] (false, [23]) .rng [.var 2] [] (.prim (.bi .tuple) [.ex (.comp [25] (false, [25]) .rng [.var 2] [] (.prim (.bin .Add) [.ex (.prim .ix [.ex (.prim .ix [.slot 3, .slot 23]), .slot 25]), .ex (.prim .ix [.ex (.prim .ix [.slot 4, .slot 23]), .slot 25])]))]))])]))) [
    .ret (.con (.bl false))] [],
    .ite (.val (.ex (.prim (.cmp .NotEq) [.ex (.call "scaled_table" [.ex (.var 3), .ex (.var 10)]), .ex (.prim (.bi .tuple) [.ex (.comp [24] (false, [24]) .seq [.var 3] [] (.prim (.bi .tuple) [.ex (.comp [20] (false, [20]) .seq [.var 24] [] (.prim (.bin .Mult) [.slot 10, .slot 20]))]))])]))) [
    .ret (.con (.bl false))] [],
    .ite (.val (.ex (.prim (.cmp .NotEq) [.ex (.call "flipped_table" [.ex (.var 3)]), .ex (.prim (.bi .tuple) [.ex (.comp [25] (false, [25]) .rng [.var 2] [] (.prim (.bi .tuple) [.ex (.comp [23] (false, [23]) .rng [.var 2] [] (.prim .ix [.ex (.prim .ix [.slot 3, .slot 23]), .slot 25]))]))])]))) [
    .ret (.con (.bl false))] [],
    .set true 11 (.dsp false [.var 5]),
    .loop (false, [12]) .rng [.con (.int 7)] [
    .app 11 (.call "_law_product" [.ex (.prim .ix [.slot 11, .ex (.prim .neg [.ex (.con (.int 1))])]), .ex (.var 3), .ex (.var 2)])],
    .set false 13 (.call "_law_pick" [.slot 1, .ex (.con (.int 8))]),
    .ite (.not (.val (.ex (.call "_law_same" [.ex (.call "power_table" [.ex (.var 3), .ex (.var 13)]), .ex (.prim .ix [.slot 11, .slot 13])])))) [
    .ret (.con (.bl false))] [],
    .set false 14 (.comp [22] (false, [22]) (.brw 11) [] [] (.prim (.bi .sum) [.ex (.comp [12] (false, [12]) .rng [.var 2] [] (.prim .ix [.ex (.prim .ix [.slot 22, .slot 12]), .slot 12]))])),
    .set false 15 (.call "characteristic" [.ex (.var 3)]),
    .ite (.bop false [.val (.ex (.prim (.cmp .NotEq) [.ex (.call "trace_of" [.ex (.var 3)]), .ex (.prim .ix [.slot 14, .ex (.con (.int 1))])])), .val (.ex (.prim (.cmp .NotEq) [.ex (.call "traces" [.ex (.var 3), .ex (.con (.int 7))]), .ex (.prim (.sl true false) [.slot 14, .ex (.con (.int 1))])])), .not (.val (.ex (.call "_law_same" [.ex (.call "traces_by_numbers" [.ex (.var 15), .ex (.con (.int 7))]), .ex (.prim (.sl true false) [.slot 14, .ex (.con (.int 1))])])))]) [
    .ret (.con (.bl false))] [],
    .ite (.bop false [.val (.ex (.prim (.cmp .NotEq) [.ex (.prim (.bi .len) [.slot 15]), .ex (.prim (.bin .Add) [.slot 2, .ex (.con (.int 1))])])), .val (.ex (.prim (.cmp .NotEq) [.ex (.prim .ix [.slot 15, .ex (.con (.int 0))]), .ex (.con (.int 1))])), .not (.val (.ex (.call "_law_same" [.ex (.call "determinant_of" [.ex (.var 3)]), .ex (.call "_law_determinant" [.ex (.var 3)])])))]) [
    .ret (.con (.bl false))] [],
    .loop (false, [16]) .rng [.prim (.bin .Add) [.slot 2, .ex (.con (.int 1))]] [
    .set false 19 (.con (.int 0)),
    .loop (false, [20]) .seq [.var 15] [
    .set false 19 (.prim (.bin .Add) [.ex (.prim (.bin .Mult) [.slot 19, .slot 16]), .slot 20])],
    .set false 21 (.prim (.bi .tuple) [.ex (.comp [23] (false, [23]) .rng [.var 2] [] (.prim (.bi .tuple) [.ex (.comp [25] (false, [25]) .rng [.var 2] [] (.prim (.bin .Sub) [.ex (.prim (.bin .Mult) [.slot 16, .ex (.prim (.bi .int) [.ex (.prim (.cmp .Eq) [.slot 23, .slot 25])])]), .ex (.prim .ix [.ex (.prim .ix [.slot 3, .slot 23]), .slot 25])]))]))]),
    .ite (.val (.ex (.prim (.cmp .NotEq) [.slot 19, .ex (.call "_law_determinant" [.ex (.var 21)])]))) [
    .ret (.con (.bl false))] []],
    .set false 17 (.prim (.bi .tuple) [.ex (.comp [12] (false, [12]) .rng [.var 2] [] (.prim (.bin .Mult) [.ex (.dsp true [.con (.int 0)]), .slot 2]))]),
    .ite (.not (.val (.ex (.call "_law_same" [.ex (.call "is_nilpotent" [.ex (.var 3)]), .ex (.prim (.cmp .Eq) [.ex (.prim .ix [.slot 11, .slot 2]), .slot 17])])))) [
    .ret (.con (.bl false))] [],
    .set false 18 (.dsp false [.con .non, .prim (.bi .list) [.slot 3], .prim (.bin .Add) [.slot 3, .ex (.dsp true [.prim (.bin .Mult) [.ex (.dsp true [.con (.int 0)]), .slot 2]])], .dsp true [.dsp true [.con (.int 1), .con (.int 2)]], .dsp true [.dsp true [.con (.bl true)]], .dsp true [.dsp false [.con (.int 1)]]]),
    .ret (.bop true [.prim (.cmp .Is) [.ex (.call "is_square" [.ex (.var 3)]), .ex (.con (.bl true))], .prim (.cmp .Is) [.ex (.call "is_square" [.ex (.prim .ix [.slot 18, .ex (.call "_law_pick" [.slot 1, .ex (.con (.int 6))])])]), .ex (.con (.bl false))]])] }
def defs : List Def := [d_is_square, d_unit_table, d_times_table, d_plus_table, d_scaled_table, d_power_table, d_trace_of, d_flipped_table, d_characteristic, d_determinant_of, d_traces, d_traces_by_numbers, d_is_nilpotent, d_law_start, d_law_pick, d_law_same, d_law_table, d_law_product, d_law_determinant, d_law]
theorem fnd_is_square : Py.fnd defs "is_square" = some d_is_square := by rfl
theorem fnd_unit_table : Py.fnd defs "unit_table" = some d_unit_table := by rfl
theorem fnd_times_table : Py.fnd defs "times_table" = some d_times_table := by rfl
theorem fnd_plus_table : Py.fnd defs "plus_table" = some d_plus_table := by rfl
theorem fnd_scaled_table : Py.fnd defs "scaled_table" = some d_scaled_table := by rfl
theorem fnd_power_table : Py.fnd defs "power_table" = some d_power_table := by rfl
theorem fnd_trace_of : Py.fnd defs "trace_of" = some d_trace_of := by rfl
theorem fnd_flipped_table : Py.fnd defs "flipped_table" = some d_flipped_table := by rfl
theorem fnd_characteristic : Py.fnd defs "characteristic" = some d_characteristic := by rfl
theorem fnd_determinant_of : Py.fnd defs "determinant_of" = some d_determinant_of := by rfl
theorem fnd_traces : Py.fnd defs "traces" = some d_traces := by rfl
theorem fnd_traces_by_numbers : Py.fnd defs "traces_by_numbers" = some d_traces_by_numbers := by rfl
theorem fnd_is_nilpotent : Py.fnd defs "is_nilpotent" = some d_is_nilpotent := by rfl
theorem fnd_law_start : Py.fnd defs "_law_start" = some d_law_start := by rfl
theorem fnd_law_pick : Py.fnd defs "_law_pick" = some d_law_pick := by rfl
theorem fnd_law_same : Py.fnd defs "_law_same" = some d_law_same := by rfl
theorem fnd_law_table : Py.fnd defs "_law_table" = some d_law_table := by rfl
theorem fnd_law_product : Py.fnd defs "_law_product" = some d_law_product := by rfl
theorem fnd_law_determinant : Py.fnd defs "_law_determinant" = some d_law_determinant := by rfl
theorem fnd_law : Py.fnd defs "law" = some d_law := by rfl
end LW

set_option maxRecDepth 100000
set_option maxHeartbeats 4000000
set_option linter.all false
/-! ### tables of numbers: the mathematics -/
namespace KM
abbrev M := Nat → Nat → Int
def S (n : Nat) (f : Nat → Int) : Int := ((List.range n).map f).sum
theorem S_zero (f : Nat → Int) : S 0 f = 0 := rfl
theorem S_succ (n : Nat) (f : Nat → Int) : S (n + 1) f = S n f + f n := by
  unfold S
  rw [List.range_succ, List.map_append, List.sum_append]
  simp
theorem S_congr {n : Nat} {f g : Nat → Int} (h : ∀ k, k < n → f k = g k) : S n f = S n g := by
  induction n with
  | zero => rfl
  | succ n ih => rw [S_succ, S_succ, ih fun k hk => h k (by omega), h n (by omega)]
theorem S_nil {n : Nat} {f : Nat → Int} (h : ∀ k, k < n → f k = 0) : S n f = 0 := by
  induction n with
  | zero => rfl
  | succ n ih => rw [S_succ, ih fun k hk => h k (by omega), h n (by omega)]; rfl
theorem S_add (n : Nat) (f g : Nat → Int) : S n (fun k => f k + g k) = S n f + S n g := by
  induction n with
  | zero => rfl
  | succ n ih => rw [S_succ, S_succ, S_succ, ih]; omega
theorem S_mulL (n : Nat) (c : Int) (f : Nat → Int) : S n (fun k => c * f k) = c * S n f := by
  induction n with
  | zero => simp [S_zero]
  | succ n ih => rw [S_succ, S_succ, ih, Int.mul_add]
theorem S_mulR (n : Nat) (c : Int) (f : Nat → Int) : S n (fun k => f k * c) = S n f * c := by
  induction n with
  | zero => simp [S_zero]
  | succ n ih => rw [S_succ, S_succ, ih, Int.add_mul]
theorem S_swap (n m : Nat) (f : Nat → Nat → Int) : S n (fun i => S m (f i)) = S m (fun j => S n fun i => f i j) := by
  induction n with
  | zero => exact (S_nil fun _ _ => rfl).symm
  | succ n ih => rw [S_succ, ih, ← S_add]; exact S_congr fun k _ => (S_succ n _).symm
theorem S_one {n i : Nat} (h : i < n) (f : Nat → Int) : S n (fun k => if k = i then f k else 0) = f i := by
  induction n with
  | zero => omega
  | succ n ih =>
    rw [S_succ]
    by_cases c : n = i
    · subst c
      rw [if_pos rfl, S_nil fun k hk => if_neg (by omega)]; omega
    · rw [if_neg c, ih (by omega)]; omega
def mul (n : Nat) (f g : M) : M := fun i j => S n fun k => f i k * g k j
def one (n : Nat) : M := fun i j => if i = j ∧ i < n then 1 else 0
def Sup (n : Nat) (f : M) : Prop := ∀ i j, n ≤ i ∨ n ≤ j → f i j = 0
theorem mul_assoc (n : Nat) (f g h : M) : mul n (mul n f g) h = mul n f (mul n g h) := by
  funext i j
  show S n (fun k => S n (fun l => f i l * g l k) * h k j) = S n fun l => f i l * S n fun k => g l k * h k j
  rw [show (fun k => S n (fun l => f i l * g l k) * h k j) = fun k => S n (fun l => f i l * g l k * h k j) from funext fun k => (S_mulR n _ _).symm]
  rw [S_swap]
  congr 1; funext l
  rw [← S_mulL]
  congr 1; funext k
  exact Int.mul_assoc ..
theorem sup_one (n : Nat) : Sup n (one n) := fun i j h => if_neg (by omega)
theorem sup_mul {n : Nat} {f g : M} (hf : Sup n f) (hg : Sup n g) : Sup n (mul n f g) := fun i j h => S_nil fun k hk => by
  rcases h with h | h
  · rw [hf i k (.inl h), Int.zero_mul]
  · rw [hg k j (.inr h), Int.mul_zero]
theorem one_mul {n : Nat} {f : M} (hf : Sup n f) : mul n (one n) f = f := by
  funext i j
  by_cases h : i < n
  · refine Eq.trans (S_congr fun k hk => ?_) (S_one h fun k => f k j)
    show (if i = k ∧ i < n then (1 : Int) else 0) * f k j = if k = i then f k j else 0
    by_cases c : k = i
    · rw [if_pos ⟨c.symm, h⟩, if_pos c, Int.one_mul]
    · rw [if_neg (fun z => c z.1.symm), if_neg c, Int.zero_mul]
  · rw [hf i j (.inl (by omega))]
    refine S_nil fun k hk => ?_
    rw [sup_one n i k (.inl (by omega)), Int.zero_mul]
theorem mul_one {n : Nat} {f : M} (hf : Sup n f) : mul n f (one n) = f := by
  funext i j
  by_cases h : j < n
  · refine Eq.trans (S_congr fun k hk => ?_) (S_one h fun k => f i k)
    show f i k * (if k = j ∧ k < n then (1 : Int) else 0) = if k = j then f i k else 0
    by_cases c : k = j
    · rw [if_pos ⟨c, hk⟩, if_pos c, Int.mul_one]
    · rw [if_neg (fun z => c z.1), if_neg c, Int.mul_zero]
  · rw [hf i j (.inr (by omega))]
    refine S_nil fun k hk => ?_
    rw [sup_one n k j (.inr (by omega)), Int.mul_zero]
def tr (n : Nat) (f : M) : Int := S n fun k => f k k
def pw (n : Nat) (A : M) : Nat → M
  | 0 => one n
  | k + 1 => mul n (pw n A k) A
theorem sup_pw {n : Nat} {A : M} (h : Sup n A) : ∀ k, Sup n (pw n A k)
  | 0 => sup_one n
  | k + 1 => sup_mul (sup_pw h k) h
theorem pw_add {n : Nat} {A : M} (h : Sup n A) (a : Nat) : ∀ b, mul n (pw n A a) (pw n A b) = pw n A (a + b)
  | 0 => mul_one (sup_pw h a)
  | b + 1 => by
    show mul n (pw n A a) (mul n (pw n A b) A) = mul n (pw n A (a + b)) A
    rw [← mul_assoc, pw_add h a b]
theorem pw_one {n : Nat} {A : M} (h : Sup n A) : pw n A 1 = A := one_mul h
theorem pw_left {n : Nat} {A : M} (h : Sup n A) (k : Nat) : mul n A (pw n A k) = pw n A (k + 1) := by
  have := pw_add h 1 k
  rw [pw_one h] at this
  rw [this, Nat.add_comm]
def plus (f g : M) : M := fun i j => f i j + g i j
def scal (c : Int) (f : M) : M := fun i j => c * f i j
/-- the numbers told: one after the other -/
def fl (n : Nat) (A : M) : Nat → M × Int
  | 0 => (one n, 1)
  | k + 1 => let t := mul n A (fl n A k).1
    let c := 0 - tr n t / ((k : Int) + 1)
    (plus t (scal c (one n)), c)
def hh (n : Nat) (A : M) (k : Nat) : M := (fl n A k).1
def cc (n : Nat) (A : M) (k : Nat) : Int := (fl n A k).2
theorem cc_succ (n : Nat) (A : M) (k : Nat) : cc n A (k + 1) = 0 - tr n (mul n A (hh n A k)) / ((k : Int) + 1) := rfl
theorem hh_succ (n : Nat) (A : M) (k i j : Nat) : hh n A (k + 1) i j = mul n A (hh n A k) i j + cc n A (k + 1) * one n i j := rfl
theorem cc_of {n : Nat} {A : M} {k : Nat} {e : Int} (h : tr n (mul n A (hh n A k)) = -((k : Int) + 1) * e) : cc n A (k + 1) = e := by
  rw [cc_succ, h, Int.neg_mul, ← Int.mul_neg, Int.mul_ediv_cancel_left _ (by omega)]
  omega

theorem S1 (f : Nat → Int) : S 1 f = f 0 := by simp [S, List.range, List.range.loop]; try omega
def e1_1 (A : M) : Int := -(((A 0 0)))
theorem one1 : one 1 0 0 = 1 := by decide
theorem h1_0 (A : M) : hh 1 A 0 0 0 = 1 := one1
theorem t1_1 (A : M) : tr 1 (mul 1 A (hh 1 A 0)) = -(((0 : Nat) : Int) + 1) * e1_1 A := by
  simp only [tr, mul, S1, h1_0 A, e1_1]; generalize A 0 0 = a00; grind
theorem c1_1 (A : M) : cc 1 A 1 = e1_1 A := cc_of (t1_1 A)
theorem hs1_1 (A : M) (i j : Nat) : hh 1 A 1 i j = mul 1 A (hh 1 A 0) i j + cc 1 A 1 * one 1 i j := hh_succ 1 A 0 i j
theorem ch1 (A : M) : hh 1 A 1 0 0 = 0 := by
  simp only [hs1_1, mul, S1, h1_0 A, c1_1 A, one1, e1_1]; grind
theorem S2 (f : Nat → Int) : S 2 f = f 0 + f 1 := by simp [S, List.range, List.range.loop]; try omega
def e2_1 (A : M) : Int := -(((A 0 0)) + ((A 1 1)))
def e2_2 (A : M) : Int := (((A 0 0 * A 1 1) + (-A 0 1 * A 1 0)))
theorem one2 : one 2 0 0 = 1 ∧ one 2 0 1 = 0 ∧ one 2 1 0 = 0 ∧ one 2 1 1 = 1 := by decide
theorem h2_0 (A : M) : hh 2 A 0 0 0 = 1 ∧ hh 2 A 0 0 1 = 0 ∧ hh 2 A 0 1 0 = 0 ∧ hh 2 A 0 1 1 = 1 := one2
theorem t2_1 (A : M) : tr 2 (mul 2 A (hh 2 A 0)) = -(((0 : Nat) : Int) + 1) * e2_1 A := by
  simp only [tr, mul, S2, h2_0 A, e2_1]; generalize A 0 0 = a00; generalize A 0 1 = a01; generalize A 1 0 = a10; generalize A 1 1 = a11; grind
theorem c2_1 (A : M) : cc 2 A 1 = e2_1 A := cc_of (t2_1 A)
theorem hs2_1 (A : M) (i j : Nat) : hh 2 A 1 i j = mul 2 A (hh 2 A 0) i j + cc 2 A 1 * one 2 i j := hh_succ 2 A 0 i j
theorem h2_1 (A : M) : hh 2 A 1 0 0 = ((A 0 0 * 1 + A 0 1 * 0) + -(((A 0 0)) + ((A 1 1)))) ∧ hh 2 A 1 0 1 = (A 0 0 * 0 + A 0 1 * 1) ∧ hh 2 A 1 1 0 = (A 1 0 * 1 + A 1 1 * 0) ∧ hh 2 A 1 1 1 = ((A 1 0 * 0 + A 1 1 * 1) + -(((A 0 0)) + ((A 1 1)))) := by
  simp only [hs2_1, mul, S2, h2_0 A, c2_1 A, one2, e2_1, Int.mul_one, Int.mul_zero, Int.add_zero, true_and, and_true, and_self]
theorem t2_2 (A : M) : tr 2 (mul 2 A (hh 2 A 1)) = -(((1 : Nat) : Int) + 1) * e2_2 A := by
  simp only [tr, mul, S2, h2_1 A, e2_2]; generalize A 0 0 = a00; generalize A 0 1 = a01; generalize A 1 0 = a10; generalize A 1 1 = a11; grind
theorem c2_2 (A : M) : cc 2 A 2 = e2_2 A := cc_of (t2_2 A)
theorem hs2_2 (A : M) (i j : Nat) : hh 2 A 2 i j = mul 2 A (hh 2 A 1) i j + cc 2 A 2 * one 2 i j := hh_succ 2 A 1 i j
theorem ch2 (A : M) : hh 2 A 2 0 0 = 0 ∧ hh 2 A 2 0 1 = 0 ∧ hh 2 A 2 1 0 = 0 ∧ hh 2 A 2 1 1 = 0 := by
  simp only [hs2_2, mul, S2, h2_1 A, c2_2 A, one2, e2_2]
  generalize A 0 0 = a00; generalize A 0 1 = a01; generalize A 1 0 = a10; generalize A 1 1 = a11
  refine ⟨?_, ?_, ?_, ?_⟩ <;> grind
theorem S3 (f : Nat → Int) : S 3 f = f 0 + f 1 + f 2 := by simp [S, List.range, List.range.loop]; try omega
def e3_1 (A : M) : Int := -(((A 0 0)) + ((A 1 1)) + ((A 2 2)))
def e3_2 (A : M) : Int := (((A 0 0 * A 1 1) + (-A 0 1 * A 1 0)) + ((A 0 0 * A 2 2) + (-A 0 2 * A 2 0)) + ((A 1 1 * A 2 2) + (-A 1 2 * A 2 1)))
def e3_3 (A : M) : Int := -(((A 0 0 * A 1 1 * A 2 2) + (-A 0 0 * A 1 2 * A 2 1) + (-A 0 1 * A 1 0 * A 2 2) + (A 0 1 * A 1 2 * A 2 0) + (A 0 2 * A 1 0 * A 2 1) + (-A 0 2 * A 1 1 * A 2 0)))
theorem one3 : one 3 0 0 = 1 ∧ one 3 0 1 = 0 ∧ one 3 0 2 = 0 ∧ one 3 1 0 = 0 ∧ one 3 1 1 = 1 ∧ one 3 1 2 = 0 ∧ one 3 2 0 = 0 ∧ one 3 2 1 = 0 ∧ one 3 2 2 = 1 := by decide
theorem h3_0 (A : M) : hh 3 A 0 0 0 = 1 ∧ hh 3 A 0 0 1 = 0 ∧ hh 3 A 0 0 2 = 0 ∧ hh 3 A 0 1 0 = 0 ∧ hh 3 A 0 1 1 = 1 ∧ hh 3 A 0 1 2 = 0 ∧ hh 3 A 0 2 0 = 0 ∧ hh 3 A 0 2 1 = 0 ∧ hh 3 A 0 2 2 = 1 := one3
theorem t3_1 (A : M) : tr 3 (mul 3 A (hh 3 A 0)) = -(((0 : Nat) : Int) + 1) * e3_1 A := by
  simp only [tr, mul, S3, h3_0 A, e3_1]; generalize A 0 0 = a00; generalize A 0 1 = a01; generalize A 0 2 = a02; generalize A 1 0 = a10; generalize A 1 1 = a11; generalize A 1 2 = a12; generalize A 2 0 = a20; generalize A 2 1 = a21; generalize A 2 2 = a22; grind
theorem c3_1 (A : M) : cc 3 A 1 = e3_1 A := cc_of (t3_1 A)
theorem hs3_1 (A : M) (i j : Nat) : hh 3 A 1 i j = mul 3 A (hh 3 A 0) i j + cc 3 A 1 * one 3 i j := hh_succ 3 A 0 i j
theorem h3_1 (A : M) : hh 3 A 1 0 0 = ((A 0 0 * 1 + A 0 1 * 0 + A 0 2 * 0) + -(((A 0 0)) + ((A 1 1)) + ((A 2 2)))) ∧ hh 3 A 1 0 1 = (A 0 0 * 0 + A 0 1 * 1 + A 0 2 * 0) ∧ hh 3 A 1 0 2 = (A 0 0 * 0 + A 0 1 * 0 + A 0 2 * 1) ∧ hh 3 A 1 1 0 = (A 1 0 * 1 + A 1 1 * 0 + A 1 2 * 0) ∧ hh 3 A 1 1 1 = ((A 1 0 * 0 + A 1 1 * 1 + A 1 2 * 0) + -(((A 0 0)) + ((A 1 1)) + ((A 2 2)))) ∧ hh 3 A 1 1 2 = (A 1 0 * 0 + A 1 1 * 0 + A 1 2 * 1) ∧ hh 3 A 1 2 0 = (A 2 0 * 1 + A 2 1 * 0 + A 2 2 * 0) ∧ hh 3 A 1 2 1 = (A 2 0 * 0 + A 2 1 * 1 + A 2 2 * 0) ∧ hh 3 A 1 2 2 = ((A 2 0 * 0 + A 2 1 * 0 + A 2 2 * 1) + -(((A 0 0)) + ((A 1 1)) + ((A 2 2)))) := by
  simp only [hs3_1, mul, S3, h3_0 A, c3_1 A, one3, e3_1, Int.mul_one, Int.mul_zero, Int.add_zero, true_and, and_true, and_self]
theorem t3_2 (A : M) : tr 3 (mul 3 A (hh 3 A 1)) = -(((1 : Nat) : Int) + 1) * e3_2 A := by
  simp only [tr, mul, S3, h3_1 A, e3_2]; generalize A 0 0 = a00; generalize A 0 1 = a01; generalize A 0 2 = a02; generalize A 1 0 = a10; generalize A 1 1 = a11; generalize A 1 2 = a12; generalize A 2 0 = a20; generalize A 2 1 = a21; generalize A 2 2 = a22; grind
theorem c3_2 (A : M) : cc 3 A 2 = e3_2 A := cc_of (t3_2 A)
theorem hs3_2 (A : M) (i j : Nat) : hh 3 A 2 i j = mul 3 A (hh 3 A 1) i j + cc 3 A 2 * one 3 i j := hh_succ 3 A 1 i j
theorem h3_2 (A : M) : hh 3 A 2 0 0 = ((A 0 0 * ((A 0 0 * 1 + A 0 1 * 0 + A 0 2 * 0) + -(((A 0 0)) + ((A 1 1)) + ((A 2 2)))) + A 0 1 * (A 1 0 * 1 + A 1 1 * 0 + A 1 2 * 0) + A 0 2 * (A 2 0 * 1 + A 2 1 * 0 + A 2 2 * 0)) + (((A 0 0 * A 1 1) + (-A 0 1 * A 1 0)) + ((A 0 0 * A 2 2) + (-A 0 2 * A 2 0)) + ((A 1 1 * A 2 2) + (-A 1 2 * A 2 1)))) ∧ hh 3 A 2 0 1 = (A 0 0 * (A 0 0 * 0 + A 0 1 * 1 + A 0 2 * 0) + A 0 1 * ((A 1 0 * 0 + A 1 1 * 1 + A 1 2 * 0) + -(((A 0 0)) + ((A 1 1)) + ((A 2 2)))) + A 0 2 * (A 2 0 * 0 + A 2 1 * 1 + A 2 2 * 0)) ∧ hh 3 A 2 0 2 = (A 0 0 * (A 0 0 * 0 + A 0 1 * 0 + A 0 2 * 1) + A 0 1 * (A 1 0 * 0 + A 1 1 * 0 + A 1 2 * 1) + A 0 2 * ((A 2 0 * 0 + A 2 1 * 0 + A 2 2 * 1) + -(((A 0 0)) + ((A 1 1)) + ((A 2 2))))) ∧ hh 3 A 2 1 0 = (A 1 0 * ((A 0 0 * 1 + A 0 1 * 0 + A 0 2 * 0) + -(((A 0 0)) + ((A 1 1)) + ((A 2 2)))) + A 1 1 * (A 1 0 * 1 + A 1 1 * 0 + A 1 2 * 0) + A 1 2 * (A 2 0 * 1 + A 2 1 * 0 + A 2 2 * 0)) ∧ hh 3 A 2 1 1 = ((A 1 0 * (A 0 0 * 0 + A 0 1 * 1 + A 0 2 * 0) + A 1 1 * ((A 1 0 * 0 + A 1 1 * 1 + A 1 2 * 0) + -(((A 0 0)) + ((A 1 1)) + ((A 2 2)))) + A 1 2 * (A 2 0 * 0 + A 2 1 * 1 + A 2 2 * 0)) + (((A 0 0 * A 1 1) + (-A 0 1 * A 1 0)) + ((A 0 0 * A 2 2) + (-A 0 2 * A 2 0)) + ((A 1 1 * A 2 2) + (-A 1 2 * A 2 1)))) ∧ hh 3 A 2 1 2 = (A 1 0 * (A 0 0 * 0 + A 0 1 * 0 + A 0 2 * 1) + A 1 1 * (A 1 0 * 0 + A 1 1 * 0 + A 1 2 * 1) + A 1 2 * ((A 2 0 * 0 + A 2 1 * 0 + A 2 2 * 1) + -(((A 0 0)) + ((A 1 1)) + ((A 2 2))))) ∧ hh 3 A 2 2 0 = (A 2 0 * ((A 0 0 * 1 + A 0 1 * 0 + A 0 2 * 0) + -(((A 0 0)) + ((A 1 1)) + ((A 2 2)))) + A 2 1 * (A 1 0 * 1 + A 1 1 * 0 + A 1 2 * 0) + A 2 2 * (A 2 0 * 1 + A 2 1 * 0 + A 2 2 * 0)) ∧ hh 3 A 2 2 1 = (A 2 0 * (A 0 0 * 0 + A 0 1 * 1 + A 0 2 * 0) + A 2 1 * ((A 1 0 * 0 + A 1 1 * 1 + A 1 2 * 0) + -(((A 0 0)) + ((A 1 1)) + ((A 2 2)))) + A 2 2 * (A 2 0 * 0 + A 2 1 * 1 + A 2 2 * 0)) ∧ hh 3 A 2 2 2 = ((A 2 0 * (A 0 0 * 0 + A 0 1 * 0 + A 0 2 * 1) + A 2 1 * (A 1 0 * 0 + A 1 1 * 0 + A 1 2 * 1) + A 2 2 * ((A 2 0 * 0 + A 2 1 * 0 + A 2 2 * 1) + -(((A 0 0)) + ((A 1 1)) + ((A 2 2))))) + (((A 0 0 * A 1 1) + (-A 0 1 * A 1 0)) + ((A 0 0 * A 2 2) + (-A 0 2 * A 2 0)) + ((A 1 1 * A 2 2) + (-A 1 2 * A 2 1)))) := by
  simp only [hs3_2, mul, S3, h3_1 A, c3_2 A, one3, e3_2, Int.mul_one, Int.mul_zero, Int.add_zero, true_and, and_true, and_self]
theorem t3_3 (A : M) : tr 3 (mul 3 A (hh 3 A 2)) = -(((2 : Nat) : Int) + 1) * e3_3 A := by
  simp only [tr, mul, S3, h3_2 A, e3_3]; generalize A 0 0 = a00; generalize A 0 1 = a01; generalize A 0 2 = a02; generalize A 1 0 = a10; generalize A 1 1 = a11; generalize A 1 2 = a12; generalize A 2 0 = a20; generalize A 2 1 = a21; generalize A 2 2 = a22; grind
theorem c3_3 (A : M) : cc 3 A 3 = e3_3 A := cc_of (t3_3 A)
theorem hs3_3 (A : M) (i j : Nat) : hh 3 A 3 i j = mul 3 A (hh 3 A 2) i j + cc 3 A 3 * one 3 i j := hh_succ 3 A 2 i j
theorem ch3 (A : M) : hh 3 A 3 0 0 = 0 ∧ hh 3 A 3 0 1 = 0 ∧ hh 3 A 3 0 2 = 0 ∧ hh 3 A 3 1 0 = 0 ∧ hh 3 A 3 1 1 = 0 ∧ hh 3 A 3 1 2 = 0 ∧ hh 3 A 3 2 0 = 0 ∧ hh 3 A 3 2 1 = 0 ∧ hh 3 A 3 2 2 = 0 := by
  simp only [hs3_3, mul, S3, h3_2 A, c3_3 A, one3, e3_3]
  generalize A 0 0 = a00; generalize A 0 1 = a01; generalize A 0 2 = a02; generalize A 1 0 = a10; generalize A 1 1 = a11; generalize A 1 2 = a12; generalize A 2 0 = a20; generalize A 2 1 = a21; generalize A 2 2 = a22
  refine ⟨?_, ?_, ?_, ?_, ?_, ?_, ?_, ?_, ?_⟩ <;> grind
theorem S4 (f : Nat → Int) : S 4 f = f 0 + f 1 + f 2 + f 3 := by simp [S, List.range, List.range.loop]; try omega
def e4_1 (A : M) : Int := -(((A 0 0)) + ((A 1 1)) + ((A 2 2)) + ((A 3 3)))
def e4_2 (A : M) : Int := (((A 0 0 * A 1 1) + (-A 0 1 * A 1 0)) + ((A 0 0 * A 2 2) + (-A 0 2 * A 2 0)) + ((A 0 0 * A 3 3) + (-A 0 3 * A 3 0)) + ((A 1 1 * A 2 2) + (-A 1 2 * A 2 1)) + ((A 1 1 * A 3 3) + (-A 1 3 * A 3 1)) + ((A 2 2 * A 3 3) + (-A 2 3 * A 3 2)))
def e4_3 (A : M) : Int := -(((A 0 0 * A 1 1 * A 2 2) + (-A 0 0 * A 1 2 * A 2 1) + (-A 0 1 * A 1 0 * A 2 2) + (A 0 1 * A 1 2 * A 2 0) + (A 0 2 * A 1 0 * A 2 1) + (-A 0 2 * A 1 1 * A 2 0)) + ((A 0 0 * A 1 1 * A 3 3) + (-A 0 0 * A 1 3 * A 3 1) + (-A 0 1 * A 1 0 * A 3 3) + (A 0 1 * A 1 3 * A 3 0) + (A 0 3 * A 1 0 * A 3 1) + (-A 0 3 * A 1 1 * A 3 0)) + ((A 0 0 * A 2 2 * A 3 3) + (-A 0 0 * A 2 3 * A 3 2) + (-A 0 2 * A 2 0 * A 3 3) + (A 0 2 * A 2 3 * A 3 0) + (A 0 3 * A 2 0 * A 3 2) + (-A 0 3 * A 2 2 * A 3 0)) + ((A 1 1 * A 2 2 * A 3 3) + (-A 1 1 * A 2 3 * A 3 2) + (-A 1 2 * A 2 1 * A 3 3) + (A 1 2 * A 2 3 * A 3 1) + (A 1 3 * A 2 1 * A 3 2) + (-A 1 3 * A 2 2 * A 3 1)))
def e4_4 (A : M) : Int := (((A 0 0 * A 1 1 * A 2 2 * A 3 3) + (-A 0 0 * A 1 1 * A 2 3 * A 3 2) + (-A 0 0 * A 1 2 * A 2 1 * A 3 3) + (A 0 0 * A 1 2 * A 2 3 * A 3 1) + (A 0 0 * A 1 3 * A 2 1 * A 3 2) + (-A 0 0 * A 1 3 * A 2 2 * A 3 1) + (-A 0 1 * A 1 0 * A 2 2 * A 3 3) + (A 0 1 * A 1 0 * A 2 3 * A 3 2) + (A 0 1 * A 1 2 * A 2 0 * A 3 3) + (-A 0 1 * A 1 2 * A 2 3 * A 3 0) + (-A 0 1 * A 1 3 * A 2 0 * A 3 2) + (A 0 1 * A 1 3 * A 2 2 * A 3 0) + (A 0 2 * A 1 0 * A 2 1 * A 3 3) + (-A 0 2 * A 1 0 * A 2 3 * A 3 1) + (-A 0 2 * A 1 1 * A 2 0 * A 3 3) + (A 0 2 * A 1 1 * A 2 3 * A 3 0) + (A 0 2 * A 1 3 * A 2 0 * A 3 1) + (-A 0 2 * A 1 3 * A 2 1 * A 3 0) + (-A 0 3 * A 1 0 * A 2 1 * A 3 2) + (A 0 3 * A 1 0 * A 2 2 * A 3 1) + (A 0 3 * A 1 1 * A 2 0 * A 3 2) + (-A 0 3 * A 1 1 * A 2 2 * A 3 0) + (-A 0 3 * A 1 2 * A 2 0 * A 3 1) + (A 0 3 * A 1 2 * A 2 1 * A 3 0)))
theorem one4 : one 4 0 0 = 1 ∧ one 4 0 1 = 0 ∧ one 4 0 2 = 0 ∧ one 4 0 3 = 0 ∧ one 4 1 0 = 0 ∧ one 4 1 1 = 1 ∧ one 4 1 2 = 0 ∧ one 4 1 3 = 0 ∧ one 4 2 0 = 0 ∧ one 4 2 1 = 0 ∧ one 4 2 2 = 1 ∧ one 4 2 3 = 0 ∧ one 4 3 0 = 0 ∧ one 4 3 1 = 0 ∧ one 4 3 2 = 0 ∧ one 4 3 3 = 1 := by decide
theorem h4_0 (A : M) : hh 4 A 0 0 0 = 1 ∧ hh 4 A 0 0 1 = 0 ∧ hh 4 A 0 0 2 = 0 ∧ hh 4 A 0 0 3 = 0 ∧ hh 4 A 0 1 0 = 0 ∧ hh 4 A 0 1 1 = 1 ∧ hh 4 A 0 1 2 = 0 ∧ hh 4 A 0 1 3 = 0 ∧ hh 4 A 0 2 0 = 0 ∧ hh 4 A 0 2 1 = 0 ∧ hh 4 A 0 2 2 = 1 ∧ hh 4 A 0 2 3 = 0 ∧ hh 4 A 0 3 0 = 0 ∧ hh 4 A 0 3 1 = 0 ∧ hh 4 A 0 3 2 = 0 ∧ hh 4 A 0 3 3 = 1 := one4
theorem t4_1 (A : M) : tr 4 (mul 4 A (hh 4 A 0)) = -(((0 : Nat) : Int) + 1) * e4_1 A := by
  simp only [tr, mul, S4, h4_0 A, e4_1]; generalize A 0 0 = a00; generalize A 0 1 = a01; generalize A 0 2 = a02; generalize A 0 3 = a03; generalize A 1 0 = a10; generalize A 1 1 = a11; generalize A 1 2 = a12; generalize A 1 3 = a13; generalize A 2 0 = a20; generalize A 2 1 = a21; generalize A 2 2 = a22; generalize A 2 3 = a23; generalize A 3 0 = a30; generalize A 3 1 = a31; generalize A 3 2 = a32; generalize A 3 3 = a33; grind
theorem c4_1 (A : M) : cc 4 A 1 = e4_1 A := cc_of (t4_1 A)
theorem hs4_1 (A : M) (i j : Nat) : hh 4 A 1 i j = mul 4 A (hh 4 A 0) i j + cc 4 A 1 * one 4 i j := hh_succ 4 A 0 i j
theorem h4_1 (A : M) : hh 4 A 1 0 0 = ((A 0 0 * 1 + A 0 1 * 0 + A 0 2 * 0 + A 0 3 * 0) + -(((A 0 0)) + ((A 1 1)) + ((A 2 2)) + ((A 3 3)))) ∧ hh 4 A 1 0 1 = (A 0 0 * 0 + A 0 1 * 1 + A 0 2 * 0 + A 0 3 * 0) ∧ hh 4 A 1 0 2 = (A 0 0 * 0 + A 0 1 * 0 + A 0 2 * 1 + A 0 3 * 0) ∧ hh 4 A 1 0 3 = (A 0 0 * 0 + A 0 1 * 0 + A 0 2 * 0 + A 0 3 * 1) ∧ hh 4 A 1 1 0 = (A 1 0 * 1 + A 1 1 * 0 + A 1 2 * 0 + A 1 3 * 0) ∧ hh 4 A 1 1 1 = ((A 1 0 * 0 + A 1 1 * 1 + A 1 2 * 0 + A 1 3 * 0) + -(((A 0 0)) + ((A 1 1)) + ((A 2 2)) + ((A 3 3)))) ∧ hh 4 A 1 1 2 = (A 1 0 * 0 + A 1 1 * 0 + A 1 2 * 1 + A 1 3 * 0) ∧ hh 4 A 1 1 3 = (A 1 0 * 0 + A 1 1 * 0 + A 1 2 * 0 + A 1 3 * 1) ∧ hh 4 A 1 2 0 = (A 2 0 * 1 + A 2 1 * 0 + A 2 2 * 0 + A 2 3 * 0) ∧ hh 4 A 1 2 1 = (A 2 0 * 0 + A 2 1 * 1 + A 2 2 * 0 + A 2 3 * 0) ∧ hh 4 A 1 2 2 = ((A 2 0 * 0 + A 2 1 * 0 + A 2 2 * 1 + A 2 3 * 0) + -(((A 0 0)) + ((A 1 1)) + ((A 2 2)) + ((A 3 3)))) ∧ hh 4 A 1 2 3 = (A 2 0 * 0 + A 2 1 * 0 + A 2 2 * 0 + A 2 3 * 1) ∧ hh 4 A 1 3 0 = (A 3 0 * 1 + A 3 1 * 0 + A 3 2 * 0 + A 3 3 * 0) ∧ hh 4 A 1 3 1 = (A 3 0 * 0 + A 3 1 * 1 + A 3 2 * 0 + A 3 3 * 0) ∧ hh 4 A 1 3 2 = (A 3 0 * 0 + A 3 1 * 0 + A 3 2 * 1 + A 3 3 * 0) ∧ hh 4 A 1 3 3 = ((A 3 0 * 0 + A 3 1 * 0 + A 3 2 * 0 + A 3 3 * 1) + -(((A 0 0)) + ((A 1 1)) + ((A 2 2)) + ((A 3 3)))) := by
  simp only [hs4_1, mul, S4, h4_0 A, c4_1 A, one4, e4_1, Int.mul_one, Int.mul_zero, Int.add_zero, true_and, and_true, and_self]
theorem t4_2 (A : M) : tr 4 (mul 4 A (hh 4 A 1)) = -(((1 : Nat) : Int) + 1) * e4_2 A := by
  simp only [tr, mul, S4, h4_1 A, e4_2]; generalize A 0 0 = a00; generalize A 0 1 = a01; generalize A 0 2 = a02; generalize A 0 3 = a03; generalize A 1 0 = a10; generalize A 1 1 = a11; generalize A 1 2 = a12; generalize A 1 3 = a13; generalize A 2 0 = a20; generalize A 2 1 = a21; generalize A 2 2 = a22; generalize A 2 3 = a23; generalize A 3 0 = a30; generalize A 3 1 = a31; generalize A 3 2 = a32; generalize A 3 3 = a33; grind
theorem c4_2 (A : M) : cc 4 A 2 = e4_2 A := cc_of (t4_2 A)
theorem hs4_2 (A : M) (i j : Nat) : hh 4 A 2 i j = mul 4 A (hh 4 A 1) i j + cc 4 A 2 * one 4 i j := hh_succ 4 A 1 i j
theorem h4_2 (A : M) : hh 4 A 2 0 0 = ((A 0 0 * ((A 0 0 * 1 + A 0 1 * 0 + A 0 2 * 0 + A 0 3 * 0) + -(((A 0 0)) + ((A 1 1)) + ((A 2 2)) + ((A 3 3)))) + A 0 1 * (A 1 0 * 1 + A 1 1 * 0 + A 1 2 * 0 + A 1 3 * 0) + A 0 2 * (A 2 0 * 1 + A 2 1 * 0 + A 2 2 * 0 + A 2 3 * 0) + A 0 3 * (A 3 0 * 1 + A 3 1 * 0 + A 3 2 * 0 + A 3 3 * 0)) + (((A 0 0 * A 1 1) + (-A 0 1 * A 1 0)) + ((A 0 0 * A 2 2) + (-A 0 2 * A 2 0)) + ((A 0 0 * A 3 3) + (-A 0 3 * A 3 0)) + ((A 1 1 * A 2 2) + (-A 1 2 * A 2 1)) + ((A 1 1 * A 3 3) + (-A 1 3 * A 3 1)) + ((A 2 2 * A 3 3) + (-A 2 3 * A 3 2)))) ∧ hh 4 A 2 0 1 = (A 0 0 * (A 0 0 * 0 + A 0 1 * 1 + A 0 2 * 0 + A 0 3 * 0) + A 0 1 * ((A 1 0 * 0 + A 1 1 * 1 + A 1 2 * 0 + A 1 3 * 0) + -(((A 0 0)) + ((A 1 1)) + ((A 2 2)) + ((A 3 3)))) + A 0 2 * (A 2 0 * 0 + A 2 1 * 1 + A 2 2 * 0 + A 2 3 * 0) + A 0 3 * (A 3 0 * 0 + A 3 1 * 1 + A 3 2 * 0 + A 3 3 * 0)) ∧ hh 4 A 2 0 2 = (A 0 0 * (A 0 0 * 0 + A 0 1 * 0 + A 0 2 * 1 + A 0 3 * 0) + A 0 1 * (A 1 0 * 0 + A 1 1 * 0 + A 1 2 * 1 + A 1 3 * 0) + A 0 2 * ((A 2 0 * 0 + A 2 1 * 0 + A 2 2 * 1 + A 2 3 * 0) + -(((A 0 0)) + ((A 1 1)) + ((A 2 2)) + ((A 3 3)))) + A 0 3 * (A 3 0 * 0 + A 3 1 * 0 + A 3 2 * 1 + A 3 3 * 0)) ∧ hh 4 A 2 0 3 = (A 0 0 * (A 0 0 * 0 + A 0 1 * 0 + A 0 2 * 0 + A 0 3 * 1) + A 0 1 * (A 1 0 * 0 + A 1 1 * 0 + A 1 2 * 0 + A 1 3 * 1) + A 0 2 * (A 2 0 * 0 + A 2 1 * 0 + A 2 2 * 0 + A 2 3 * 1) + A 0 3 * ((A 3 0 * 0 + A 3 1 * 0 + A 3 2 * 0 + A 3 3 * 1) + -(((A 0 0)) + ((A 1 1)) + ((A 2 2)) + ((A 3 3))))) ∧ hh 4 A 2 1 0 = (A 1 0 * ((A 0 0 * 1 + A 0 1 * 0 + A 0 2 * 0 + A 0 3 * 0) + -(((A 0 0)) + ((A 1 1)) + ((A 2 2)) + ((A 3 3)))) + A 1 1 * (A 1 0 * 1 + A 1 1 * 0 + A 1 2 * 0 + A 1 3 * 0) + A 1 2 * (A 2 0 * 1 + A 2 1 * 0 + A 2 2 * 0 + A 2 3 * 0) + A 1 3 * (A 3 0 * 1 + A 3 1 * 0 + A 3 2 * 0 + A 3 3 * 0)) ∧ hh 4 A 2 1 1 = ((A 1 0 * (A 0 0 * 0 + A 0 1 * 1 + A 0 2 * 0 + A 0 3 * 0) + A 1 1 * ((A 1 0 * 0 + A 1 1 * 1 + A 1 2 * 0 + A 1 3 * 0) + -(((A 0 0)) + ((A 1 1)) + ((A 2 2)) + ((A 3 3)))) + A 1 2 * (A 2 0 * 0 + A 2 1 * 1 + A 2 2 * 0 + A 2 3 * 0) + A 1 3 * (A 3 0 * 0 + A 3 1 * 1 + A 3 2 * 0 + A 3 3 * 0)) + (((A 0 0 * A 1 1) + (-A 0 1 * A 1 0)) + ((A 0 0 * A 2 2) + (-A 0 2 * A 2 0)) + ((A 0 0 * A 3 3) + (-A 0 3 * A 3 0)) + ((A 1 1 * A 2 2) + (-A 1 2 * A 2 1)) + ((A 1 1 * A 3 3) + (-A 1 3 * A 3 1)) + ((A 2 2 * A 3 3) + (-A 2 3 * A 3 2)))) ∧ hh 4 A 2 1 2 = (A 1 0 * (A 0 0 * 0 + A 0 1 * 0 + A 0 2 * 1 + A 0 3 * 0) + A 1 1 * (A 1 0 * 0 + A 1 1 * 0 + A 1 2 * 1 + A 1 3 * 0) + A 1 2 * ((A 2 0 * 0 + A 2 1 * 0 + A 2 2 * 1 + A 2 3 * 0) + -(((A 0 0)) + ((A 1 1)) + ((A 2 2)) + ((A 3 3)))) + A 1 3 * (A 3 0 * 0 + A 3 1 * 0 + A 3 2 * 1 + A 3 3 * 0)) ∧ hh 4 A 2 1 3 = (A 1 0 * (A 0 0 * 0 + A 0 1 * 0 + A 0 2 * 0 + A 0 3 * 1) + A 1 1 * (A 1 0 * 0 + A 1 1 * 0 + A 1 2 * 0 + A 1 3 * 1) + A 1 2 * (A 2 0 * 0 + A 2 1 * 0 + A 2 2 * 0 + A 2 3 * 1) + A 1 3 * ((A 3 0 * 0 + A 3 1 * 0 + A 3 2 * 0 + A 3 3 * 1) + -(((A 0 0)) + ((A 1 1)) + ((A 2 2)) + ((A 3 3))))) ∧ hh 4 A 2 2 0 = (A 2 0 * ((A 0 0 * 1 + A 0 1 * 0 + A 0 2 * 0 + A 0 3 * 0) + -(((A 0 0)) + ((A 1 1)) + ((A 2 2)) + ((A 3 3)))) + A 2 1 * (A 1 0 * 1 + A 1 1 * 0 + A 1 2 * 0 + A 1 3 * 0) + A 2 2 * (A 2 0 * 1 + A 2 1 * 0 + A 2 2 * 0 + A 2 3 * 0) + A 2 3 * (A 3 0 * 1 + A 3 1 * 0 + A 3 2 * 0 + A 3 3 * 0)) ∧ hh 4 A 2 2 1 = (A 2 0 * (A 0 0 * 0 + A 0 1 * 1 + A 0 2 * 0 + A 0 3 * 0) + A 2 1 * ((A 1 0 * 0 + A 1 1 * 1 + A 1 2 * 0 + A 1 3 * 0) + -(((A 0 0)) + ((A 1 1)) + ((A 2 2)) + ((A 3 3)))) + A 2 2 * (A 2 0 * 0 + A 2 1 * 1 + A 2 2 * 0 + A 2 3 * 0) + A 2 3 * (A 3 0 * 0 + A 3 1 * 1 + A 3 2 * 0 + A 3 3 * 0)) ∧ hh 4 A 2 2 2 = ((A 2 0 * (A 0 0 * 0 + A 0 1 * 0 + A 0 2 * 1 + A 0 3 * 0) + A 2 1 * (A 1 0 * 0 + A 1 1 * 0 + A 1 2 * 1 + A 1 3 * 0) + A 2 2 * ((A 2 0 * 0 + A 2 1 * 0 + A 2 2 * 1 + A 2 3 * 0) + -(((A 0 0)) + ((A 1 1)) + ((A 2 2)) + ((A 3 3)))) + A 2 3 * (A 3 0 * 0 + A 3 1 * 0 + A 3 2 * 1 + A 3 3 * 0)) + (((A 0 0 * A 1 1) + (-A 0 1 * A 1 0)) + ((A 0 0 * A 2 2) + (-A 0 2 * A 2 0)) + ((A 0 0 * A 3 3) + (-A 0 3 * A 3 0)) + ((A 1 1 * A 2 2) + (-A 1 2 * A 2 1)) + ((A 1 1 * A 3 3) + (-A 1 3 * A 3 1)) + ((A 2 2 * A 3 3) + (-A 2 3 * A 3 2)))) ∧ hh 4 A 2 2 3 = (A 2 0 * (A 0 0 * 0 + A 0 1 * 0 + A 0 2 * 0 + A 0 3 * 1) + A 2 1 * (A 1 0 * 0 + A 1 1 * 0 + A 1 2 * 0 + A 1 3 * 1) + A 2 2 * (A 2 0 * 0 + A 2 1 * 0 + A 2 2 * 0 + A 2 3 * 1) + A 2 3 * ((A 3 0 * 0 + A 3 1 * 0 + A 3 2 * 0 + A 3 3 * 1) + -(((A 0 0)) + ((A 1 1)) + ((A 2 2)) + ((A 3 3))))) ∧ hh 4 A 2 3 0 = (A 3 0 * ((A 0 0 * 1 + A 0 1 * 0 + A 0 2 * 0 + A 0 3 * 0) + -(((A 0 0)) + ((A 1 1)) + ((A 2 2)) + ((A 3 3)))) + A 3 1 * (A 1 0 * 1 + A 1 1 * 0 + A 1 2 * 0 + A 1 3 * 0) + A 3 2 * (A 2 0 * 1 + A 2 1 * 0 + A 2 2 * 0 + A 2 3 * 0) + A 3 3 * (A 3 0 * 1 + A 3 1 * 0 + A 3 2 * 0 + A 3 3 * 0)) ∧ hh 4 A 2 3 1 = (A 3 0 * (A 0 0 * 0 + A 0 1 * 1 + A 0 2 * 0 + A 0 3 * 0) + A 3 1 * ((A 1 0 * 0 + A 1 1 * 1 + A 1 2 * 0 + A 1 3 * 0) + -(((A 0 0)) + ((A 1 1)) + ((A 2 2)) + ((A 3 3)))) + A 3 2 * (A 2 0 * 0 + A 2 1 * 1 + A 2 2 * 0 + A 2 3 * 0) + A 3 3 * (A 3 0 * 0 + A 3 1 * 1 + A 3 2 * 0 + A 3 3 * 0)) ∧ hh 4 A 2 3 2 = (A 3 0 * (A 0 0 * 0 + A 0 1 * 0 + A 0 2 * 1 + A 0 3 * 0) + A 3 1 * (A 1 0 * 0 + A 1 1 * 0 + A 1 2 * 1 + A 1 3 * 0) + A 3 2 * ((A 2 0 * 0 + A 2 1 * 0 + A 2 2 * 1 + A 2 3 * 0) + -(((A 0 0)) + ((A 1 1)) + ((A 2 2)) + ((A 3 3)))) + A 3 3 * (A 3 0 * 0 + A 3 1 * 0 + A 3 2 * 1 + A 3 3 * 0)) ∧ hh 4 A 2 3 3 = ((A 3 0 * (A 0 0 * 0 + A 0 1 * 0 + A 0 2 * 0 + A 0 3 * 1) + A 3 1 * (A 1 0 * 0 + A 1 1 * 0 + A 1 2 * 0 + A 1 3 * 1) + A 3 2 * (A 2 0 * 0 + A 2 1 * 0 + A 2 2 * 0 + A 2 3 * 1) + A 3 3 * ((A 3 0 * 0 + A 3 1 * 0 + A 3 2 * 0 + A 3 3 * 1) + -(((A 0 0)) + ((A 1 1)) + ((A 2 2)) + ((A 3 3))))) + (((A 0 0 * A 1 1) + (-A 0 1 * A 1 0)) + ((A 0 0 * A 2 2) + (-A 0 2 * A 2 0)) + ((A 0 0 * A 3 3) + (-A 0 3 * A 3 0)) + ((A 1 1 * A 2 2) + (-A 1 2 * A 2 1)) + ((A 1 1 * A 3 3) + (-A 1 3 * A 3 1)) + ((A 2 2 * A 3 3) + (-A 2 3 * A 3 2)))) := by
  simp only [hs4_2, mul, S4, h4_1 A, c4_2 A, one4, e4_2, Int.mul_one, Int.mul_zero, Int.add_zero, true_and, and_true, and_self]
theorem t4_3 (A : M) : tr 4 (mul 4 A (hh 4 A 2)) = -(((2 : Nat) : Int) + 1) * e4_3 A := by
  simp only [tr, mul, S4, h4_2 A, e4_3]; generalize A 0 0 = a00; generalize A 0 1 = a01; generalize A 0 2 = a02; generalize A 0 3 = a03; generalize A 1 0 = a10; generalize A 1 1 = a11; generalize A 1 2 = a12; generalize A 1 3 = a13; generalize A 2 0 = a20; generalize A 2 1 = a21; generalize A 2 2 = a22; generalize A 2 3 = a23; generalize A 3 0 = a30; generalize A 3 1 = a31; generalize A 3 2 = a32; generalize A 3 3 = a33; grind
theorem c4_3 (A : M) : cc 4 A 3 = e4_3 A := cc_of (t4_3 A)
theorem hs4_3 (A : M) (i j : Nat) : hh 4 A 3 i j = mul 4 A (hh 4 A 2) i j + cc 4 A 3 * one 4 i j := hh_succ 4 A 2 i j
theorem h4_3 (A : M) : hh 4 A 3 0 0 = ((A 0 0 * ((A 0 0 * ((A 0 0 * 1 + A 0 1 * 0 + A 0 2 * 0 + A 0 3 * 0) + -(((A 0 0)) + ((A 1 1)) + ((A 2 2)) + ((A 3 3)))) + A 0 1 * (A 1 0 * 1 + A 1 1 * 0 + A 1 2 * 0 + A 1 3 * 0) + A 0 2 * (A 2 0 * 1 + A 2 1 * 0 + A 2 2 * 0 + A 2 3 * 0) + A 0 3 * (A 3 0 * 1 + A 3 1 * 0 + A 3 2 * 0 + A 3 3 * 0)) + (((A 0 0 * A 1 1) + (-A 0 1 * A 1 0)) + ((A 0 0 * A 2 2) + (-A 0 2 * A 2 0)) + ((A 0 0 * A 3 3) + (-A 0 3 * A 3 0)) + ((A 1 1 * A 2 2) + (-A 1 2 * A 2 1)) + ((A 1 1 * A 3 3) + (-A 1 3 * A 3 1)) + ((A 2 2 * A 3 3) + (-A 2 3 * A 3 2)))) + A 0 1 * (A 1 0 * ((A 0 0 * 1 + A 0 1 * 0 + A 0 2 * 0 + A 0 3 * 0) + -(((A 0 0)) + ((A 1 1)) + ((A 2 2)) + ((A 3 3)))) + A 1 1 * (A 1 0 * 1 + A 1 1 * 0 + A 1 2 * 0 + A 1 3 * 0) + A 1 2 * (A 2 0 * 1 + A 2 1 * 0 + A 2 2 * 0 + A 2 3 * 0) + A 1 3 * (A 3 0 * 1 + A 3 1 * 0 + A 3 2 * 0 + A 3 3 * 0)) + A 0 2 * (A 2 0 * ((A 0 0 * 1 + A 0 1 * 0 + A 0 2 * 0 + A 0 3 * 0) + -(((A 0 0)) + ((A 1 1)) + ((A 2 2)) + ((A 3 3)))) + A 2 1 * (A 1 0 * 1 + A 1 1 * 0 + A 1 2 * 0 + A 1 3 * 0) + A 2 2 * (A 2 0 * 1 + A 2 1 * 0 + A 2 2 * 0 + A 2 3 * 0) + A 2 3 * (A 3 0 * 1 + A 3 1 * 0 + A 3 2 * 0 + A 3 3 * 0)) + A 0 3 * (A 3 0 * ((A 0 0 * 1 + A 0 1 * 0 + A 0 2 * 0 + A 0 3 * 0) + -(((A 0 0)) + ((A 1 1)) + ((A 2 2)) + ((A 3 3)))) + A 3 1 * (A 1 0 * 1 + A 1 1 * 0 + A 1 2 * 0 + A 1 3 * 0) + A 3 2 * (A 2 0 * 1 + A 2 1 * 0 + A 2 2 * 0 + A 2 3 * 0) + A 3 3 * (A 3 0 * 1 + A 3 1 * 0 + A 3 2 * 0 + A 3 3 * 0))) + -(((A 0 0 * A 1 1 * A 2 2) + (-A 0 0 * A 1 2 * A 2 1) + (-A 0 1 * A 1 0 * A 2 2) + (A 0 1 * A 1 2 * A 2 0) + (A 0 2 * A 1 0 * A 2 1) + (-A 0 2 * A 1 1 * A 2 0)) + ((A 0 0 * A 1 1 * A 3 3) + (-A 0 0 * A 1 3 * A 3 1) + (-A 0 1 * A 1 0 * A 3 3) + (A 0 1 * A 1 3 * A 3 0) + (A 0 3 * A 1 0 * A 3 1) + (-A 0 3 * A 1 1 * A 3 0)) + ((A 0 0 * A 2 2 * A 3 3) + (-A 0 0 * A 2 3 * A 3 2) + (-A 0 2 * A 2 0 * A 3 3) + (A 0 2 * A 2 3 * A 3 0) + (A 0 3 * A 2 0 * A 3 2) + (-A 0 3 * A 2 2 * A 3 0)) + ((A 1 1 * A 2 2 * A 3 3) + (-A 1 1 * A 2 3 * A 3 2) + (-A 1 2 * A 2 1 * A 3 3) + (A 1 2 * A 2 3 * A 3 1) + (A 1 3 * A 2 1 * A 3 2) + (-A 1 3 * A 2 2 * A 3 1)))) ∧ hh 4 A 3 0 1 = (A 0 0 * (A 0 0 * (A 0 0 * 0 + A 0 1 * 1 + A 0 2 * 0 + A 0 3 * 0) + A 0 1 * ((A 1 0 * 0 + A 1 1 * 1 + A 1 2 * 0 + A 1 3 * 0) + -(((A 0 0)) + ((A 1 1)) + ((A 2 2)) + ((A 3 3)))) + A 0 2 * (A 2 0 * 0 + A 2 1 * 1 + A 2 2 * 0 + A 2 3 * 0) + A 0 3 * (A 3 0 * 0 + A 3 1 * 1 + A 3 2 * 0 + A 3 3 * 0)) + A 0 1 * ((A 1 0 * (A 0 0 * 0 + A 0 1 * 1 + A 0 2 * 0 + A 0 3 * 0) + A 1 1 * ((A 1 0 * 0 + A 1 1 * 1 + A 1 2 * 0 + A 1 3 * 0) + -(((A 0 0)) + ((A 1 1)) + ((A 2 2)) + ((A 3 3)))) + A 1 2 * (A 2 0 * 0 + A 2 1 * 1 + A 2 2 * 0 + A 2 3 * 0) + A 1 3 * (A 3 0 * 0 + A 3 1 * 1 + A 3 2 * 0 + A 3 3 * 0)) + (((A 0 0 * A 1 1) + (-A 0 1 * A 1 0)) + ((A 0 0 * A 2 2) + (-A 0 2 * A 2 0)) + ((A 0 0 * A 3 3) + (-A 0 3 * A 3 0)) + ((A 1 1 * A 2 2) + (-A 1 2 * A 2 1)) + ((A 1 1 * A 3 3) + (-A 1 3 * A 3 1)) + ((A 2 2 * A 3 3) + (-A 2 3 * A 3 2)))) + A 0 2 * (A 2 0 * (A 0 0 * 0 + A 0 1 * 1 + A 0 2 * 0 + A 0 3 * 0) + A 2 1 * ((A 1 0 * 0 + A 1 1 * 1 + A 1 2 * 0 + A 1 3 * 0) + -(((A 0 0)) + ((A 1 1)) + ((A 2 2)) + ((A 3 3)))) + A 2 2 * (A 2 0 * 0 + A 2 1 * 1 + A 2 2 * 0 + A 2 3 * 0) + A 2 3 * (A 3 0 * 0 + A 3 1 * 1 + A 3 2 * 0 + A 3 3 * 0)) + A 0 3 * (A 3 0 * (A 0 0 * 0 + A 0 1 * 1 + A 0 2 * 0 + A 0 3 * 0) + A 3 1 * ((A 1 0 * 0 + A 1 1 * 1 + A 1 2 * 0 + A 1 3 * 0) + -(((A 0 0)) + ((A 1 1)) + ((A 2 2)) + ((A 3 3)))) + A 3 2 * (A 2 0 * 0 + A 2 1 * 1 + A 2 2 * 0 + A 2 3 * 0) + A 3 3 * (A 3 0 * 0 + A 3 1 * 1 + A 3 2 * 0 + A 3 3 * 0))) ∧ hh 4 A 3 0 2 = (A 0 0 * (A 0 0 * (A 0 0 * 0 + A 0 1 * 0 + A 0 2 * 1 + A 0 3 * 0) + A 0 1 * (A 1 0 * 0 + A 1 1 * 0 + A 1 2 * 1 + A 1 3 * 0) + A 0 2 * ((A 2 0 * 0 + A 2 1 * 0 + A 2 2 * 1 + A 2 3 * 0) + -(((A 0 0)) + ((A 1 1)) + ((A 2 2)) + ((A 3 3)))) + A 0 3 * (A 3 0 * 0 + A 3 1 * 0 + A 3 2 * 1 + A 3 3 * 0)) + A 0 1 * (A 1 0 * (A 0 0 * 0 + A 0 1 * 0 + A 0 2 * 1 + A 0 3 * 0) + A 1 1 * (A 1 0 * 0 + A 1 1 * 0 + A 1 2 * 1 + A 1 3 * 0) + A 1 2 * ((A 2 0 * 0 + A 2 1 * 0 + A 2 2 * 1 + A 2 3 * 0) + -(((A 0 0)) + ((A 1 1)) + ((A 2 2)) + ((A 3 3)))) + A 1 3 * (A 3 0 * 0 + A 3 1 * 0 + A 3 2 * 1 + A 3 3 * 0)) + A 0 2 * ((A 2 0 * (A 0 0 * 0 + A 0 1 * 0 + A 0 2 * 1 + A 0 3 * 0) + A 2 1 * (A 1 0 * 0 + A 1 1 * 0 + A 1 2 * 1 + A 1 3 * 0) + A 2 2 * ((A 2 0 * 0 + A 2 1 * 0 + A 2 2 * 1 + A 2 3 * 0) + -(((A 0 0)) + ((A 1 1)) + ((A 2 2)) + ((A 3 3)))) + A 2 3 * (A 3 0 * 0 + A 3 1 * 0 + A 3 2 * 1 + A 3 3 * 0)) + (((A 0 0 * A 1 1) + (-A 0 1 * A 1 0)) + ((A 0 0 * A 2 2) + (-A 0 2 * A 2 0)) + ((A 0 0 * A 3 3) + (-A 0 3 * A 3 0)) + ((A 1 1 * A 2 2) + (-A 1 2 * A 2 1)) + ((A 1 1 * A 3 3) + (-A 1 3 * A 3 1)) + ((A 2 2 * A 3 3) + (-A 2 3 * A 3 2)))) + A 0 3 * (A 3 0 * (A 0 0 * 0 + A 0 1 * 0 + A 0 2 * 1 + A 0 3 * 0) + A 3 1 * (A 1 0 * 0 + A 1 1 * 0 + A 1 2 * 1 + A 1 3 * 0) + A 3 2 * ((A 2 0 * 0 + A 2 1 * 0 + A 2 2 * 1 + A 2 3 * 0) + -(((A 0 0)) + ((A 1 1)) + ((A 2 2)) + ((A 3 3)))) + A 3 3 * (A 3 0 * 0 + A 3 1 * 0 + A 3 2 * 1 + A 3 3 * 0))) ∧ hh 4 A 3 0 3 = (A 0 0 * (A 0 0 * (A 0 0 * 0 + A 0 1 * 0 + A 0 2 * 0 + A 0 3 * 1) + A 0 1 * (A 1 0 * 0 + A 1 1 * 0 + A 1 2 * 0 + A 1 3 * 1) + A 0 2 * (A 2 0 * 0 + A 2 1 * 0 + A 2 2 * 0 + A 2 3 * 1) + A 0 3 * ((A 3 0 * 0 + A 3 1 * 0 + A 3 2 * 0 + A 3 3 * 1) + -(((A 0 0)) + ((A 1 1)) + ((A 2 2)) + ((A 3 3))))) + A 0 1 * (A 1 0 * (A 0 0 * 0 + A 0 1 * 0 + A 0 2 * 0 + A 0 3 * 1) + A 1 1 * (A 1 0 * 0 + A 1 1 * 0 + A 1 2 * 0 + A 1 3 * 1) + A 1 2 * (A 2 0 * 0 + A 2 1 * 0 + A 2 2 * 0 + A 2 3 * 1) + A 1 3 * ((A 3 0 * 0 + A 3 1 * 0 + A 3 2 * 0 + A 3 3 * 1) + -(((A 0 0)) + ((A 1 1)) + ((A 2 2)) + ((A 3 3))))) + A 0 2 * (A 2 0 * (A 0 0 * 0 + A 0 1 * 0 + A 0 2 * 0 + A 0 3 * 1) + A 2 1 * (A 1 0 * 0 + A 1 1 * 0 + A 1 2 * 0 + A 1 3 * 1) + A 2 2 * (A 2 0 * 0 + A 2 1 * 0 + A 2 2 * 0 + A 2 3 * 1) + A 2 3 * ((A 3 0 * 0 + A 3 1 * 0 + A 3 2 * 0 + A 3 3 * 1) + -(((A 0 0)) + ((A 1 1)) + ((A 2 2)) + ((A 3 3))))) + A 0 3 * ((A 3 0 * (A 0 0 * 0 + A 0 1 * 0 + A 0 2 * 0 + A 0 3 * 1) + A 3 1 * (A 1 0 * 0 + A 1 1 * 0 + A 1 2 * 0 + A 1 3 * 1) + A 3 2 * (A 2 0 * 0 + A 2 1 * 0 + A 2 2 * 0 + A 2 3 * 1) + A 3 3 * ((A 3 0 * 0 + A 3 1 * 0 + A 3 2 * 0 + A 3 3 * 1) + -(((A 0 0)) + ((A 1 1)) + ((A 2 2)) + ((A 3 3))))) + (((A 0 0 * A 1 1) + (-A 0 1 * A 1 0)) + ((A 0 0 * A 2 2) + (-A 0 2 * A 2 0)) + ((A 0 0 * A 3 3) + (-A 0 3 * A 3 0)) + ((A 1 1 * A 2 2) + (-A 1 2 * A 2 1)) + ((A 1 1 * A 3 3) + (-A 1 3 * A 3 1)) + ((A 2 2 * A 3 3) + (-A 2 3 * A 3 2))))) ∧ hh 4 A 3 1 0 = (A 1 0 * ((A 0 0 * ((A 0 0 * 1 + A 0 1 * 0 + A 0 2 * 0 + A 0 3 * 0) + -(((A 0 0)) + ((A 1 1)) + ((A 2 2)) + ((A 3 3)))) + A 0 1 * (A 1 0 * 1 + A 1 1 * 0 + A 1 2 * 0 + A 1 3 * 0) + A 0 2 * (A 2 0 * 1 + A 2 1 * 0 + A 2 2 * 0 + A 2 3 * 0) + A 0 3 * (A 3 0 * 1 + A 3 1 * 0 + A 3 2 * 0 + A 3 3 * 0)) + (((A 0 0 * A 1 1) + (-A 0 1 * A 1 0)) + ((A 0 0 * A 2 2) + (-A 0 2 * A 2 0)) + ((A 0 0 * A 3 3) + (-A 0 3 * A 3 0)) + ((A 1 1 * A 2 2) + (-A 1 2 * A 2 1)) + ((A 1 1 * A 3 3) + (-A 1 3 * A 3 1)) + ((A 2 2 * A 3 3) + (-A 2 3 * A 3 2)))) + A 1 1 * (A 1 0 * ((A 0 0 * 1 + A 0 1 * 0 + A 0 2 * 0 + A 0 3 * 0) + -(((A 0 0)) + ((A 1 1)) + ((A 2 2)) + ((A 3 3)))) + A 1 1 * (A 1 0 * 1 + A 1 1 * 0 + A 1 2 * 0 + A 1 3 * 0) + A 1 2 * (A 2 0 * 1 + A 2 1 * 0 + A 2 2 * 0 + A 2 3 * 0) + A 1 3 * (A 3 0 * 1 + A 3 1 * 0 + A 3 2 * 0 + A 3 3 * 0)) + A 1 2 * (A 2 0 * ((A 0 0 * 1 + A 0 1 * 0 + A 0 2 * 0 + A 0 3 * 0) + -(((A 0 0)) + ((A 1 1)) + ((A 2 2)) + ((A 3 3)))) + A 2 1 * (A 1 0 * 1 + A 1 1 * 0 + A 1 2 * 0 + A 1 3 * 0) + A 2 2 * (A 2 0 * 1 + A 2 1 * 0 + A 2 2 * 0 + A 2 3 * 0) + A 2 3 * (A 3 0 * 1 + A 3 1 * 0 + A 3 2 * 0 + A 3 3 * 0)) + A 1 3 * (A 3 0 * ((A 0 0 * 1 + A 0 1 * 0 + A 0 2 * 0 + A 0 3 * 0) + -(((A 0 0)) + ((A 1 1)) + ((A 2 2)) + ((A 3 3)))) + A 3 1 * (A 1 0 * 1 + A 1 1 * 0 + A 1 2 * 0 + A 1 3 * 0) + A 3 2 * (A 2 0 * 1 + A 2 1 * 0 + A 2 2 * 0 + A 2 3 * 0) + A 3 3 * (A 3 0 * 1 + A 3 1 * 0 + A 3 2 * 0 + A 3 3 * 0))) ∧ hh 4 A 3 1 1 = ((A 1 0 * (A 0 0 * (A 0 0 * 0 + A 0 1 * 1 + A 0 2 * 0 + A 0 3 * 0) + A 0 1 * ((A 1 0 * 0 + A 1 1 * 1 + A 1 2 * 0 + A 1 3 * 0) + -(((A 0 0)) + ((A 1 1)) + ((A 2 2)) + ((A 3 3)))) + A 0 2 * (A 2 0 * 0 + A 2 1 * 1 + A 2 2 * 0 + A 2 3 * 0) + A 0 3 * (A 3 0 * 0 + A 3 1 * 1 + A 3 2 * 0 + A 3 3 * 0)) + A 1 1 * ((A 1 0 * (A 0 0 * 0 + A 0 1 * 1 + A 0 2 * 0 + A 0 3 * 0) + A 1 1 * ((A 1 0 * 0 + A 1 1 * 1 + A 1 2 * 0 + A 1 3 * 0) + -(((A 0 0)) + ((A 1 1)) + ((A 2 2)) + ((A 3 3)))) + A 1 2 * (A 2 0 * 0 + A 2 1 * 1 + A 2 2 * 0 + A 2 3 * 0) + A 1 3 * (A 3 0 * 0 + A 3 1 * 1 + A 3 2 * 0 + A 3 3 * 0)) + (((A 0 0 * A 1 1) + (-A 0 1 * A 1 0)) + ((A 0 0 * A 2 2) + (-A 0 2 * A 2 0)) + ((A 0 0 * A 3 3) + (-A 0 3 * A 3 0)) + ((A 1 1 * A 2 2) + (-A 1 2 * A 2 1)) + ((A 1 1 * A 3 3) + (-A 1 3 * A 3 1)) + ((A 2 2 * A 3 3) + (-A 2 3 * A 3 2)))) + A 1 2 * (A 2 0 * (A 0 0 * 0 + A 0 1 * 1 + A 0 2 * 0 + A 0 3 * 0) + A 2 1 * ((A 1 0 * 0 + A 1 1 * 1 + A 1 2 * 0 + A 1 3 * 0) + -(((A 0 0)) + ((A 1 1)) + ((A 2 2)) + ((A 3 3)))) + A 2 2 * (A 2 0 * 0 + A 2 1 * 1 + A 2 2 * 0 + A 2 3 * 0) + A 2 3 * (A 3 0 * 0 + A 3 1 * 1 + A 3 2 * 0 + A 3 3 * 0)) + A 1 3 * (A 3 0 * (A 0 0 * 0 + A 0 1 * 1 + A 0 2 * 0 + A 0 3 * 0) + A 3 1 * ((A 1 0 * 0 + A 1 1 * 1 + A 1 2 * 0 + A 1 3 * 0) + -(((A 0 0)) + ((A 1 1)) + ((A 2 2)) + ((A 3 3)))) + A 3 2 * (A 2 0 * 0 + A 2 1 * 1 + A 2 2 * 0 + A 2 3 * 0) + A 3 3 * (A 3 0 * 0 + A 3 1 * 1 + A 3 2 * 0 + A 3 3 * 0))) + -(((A 0 0 * A 1 1 * A 2 2) + (-A 0 0 * A 1 2 * A 2 1) + (-A 0 1 * A 1 0 * A 2 2) + (A 0 1 * A 1 2 * A 2 0) + (A 0 2 * A 1 0 * A 2 1) + (-A 0 2 * A 1 1 * A 2 0)) + ((A 0 0 * A 1 1 * A 3 3) + (-A 0 0 * A 1 3 * A 3 1) + (-A 0 1 * A 1 0 * A 3 3) + (A 0 1 * A 1 3 * A 3 0) + (A 0 3 * A 1 0 * A 3 1) + (-A 0 3 * A 1 1 * A 3 0)) + ((A 0 0 * A 2 2 * A 3 3) + (-A 0 0 * A 2 3 * A 3 2) + (-A 0 2 * A 2 0 * A 3 3) + (A 0 2 * A 2 3 * A 3 0) + (A 0 3 * A 2 0 * A 3 2) + (-A 0 3 * A 2 2 * A 3 0)) + ((A 1 1 * A 2 2 * A 3 3) + (-A 1 1 * A 2 3 * A 3 2) + (-A 1 2 * A 2 1 * A 3 3) + (A 1 2 * A 2 3 * A 3 1) + (A 1 3 * A 2 1 * A 3 2) + (-A 1 3 * A 2 2 * A 3 1)))) ∧ hh 4 A 3 1 2 = (A 1 0 * (A 0 0 * (A 0 0 * 0 + A 0 1 * 0 + A 0 2 * 1 + A 0 3 * 0) + A 0 1 * (A 1 0 * 0 + A 1 1 * 0 + A 1 2 * 1 + A 1 3 * 0) + A 0 2 * ((A 2 0 * 0 + A 2 1 * 0 + A 2 2 * 1 + A 2 3 * 0) + -(((A 0 0)) + ((A 1 1)) + ((A 2 2)) + ((A 3 3)))) + A 0 3 * (A 3 0 * 0 + A 3 1 * 0 + A 3 2 * 1 + A 3 3 * 0)) + A 1 1 * (A 1 0 * (A 0 0 * 0 + A 0 1 * 0 + A 0 2 * 1 + A 0 3 * 0) + A 1 1 * (A 1 0 * 0 + A 1 1 * 0 + A 1 2 * 1 + A 1 3 * 0) + A 1 2 * ((A 2 0 * 0 + A 2 1 * 0 + A 2 2 * 1 + A 2 3 * 0) + -(((A 0 0)) + ((A 1 1)) + ((A 2 2)) + ((A 3 3)))) + A 1 3 * (A 3 0 * 0 + A 3 1 * 0 + A 3 2 * 1 + A 3 3 * 0)) + A 1 2 * ((A 2 0 * (A 0 0 * 0 + A 0 1 * 0 + A 0 2 * 1 + A 0 3 * 0) + A 2 1 * (A 1 0 * 0 + A 1 1 * 0 + A 1 2 * 1 + A 1 3 * 0) + A 2 2 * ((A 2 0 * 0 + A 2 1 * 0 + A 2 2 * 1 + A 2 3 * 0) + -(((A 0 0)) + ((A 1 1)) + ((A 2 2)) + ((A 3 3)))) + A 2 3 * (A 3 0 * 0 + A 3 1 * 0 + A 3 2 * 1 + A 3 3 * 0)) + (((A 0 0 * A 1 1) + (-A 0 1 * A 1 0)) + ((A 0 0 * A 2 2) + (-A 0 2 * A 2 0)) + ((A 0 0 * A 3 3) + (-A 0 3 * A 3 0)) + ((A 1 1 * A 2 2) + (-A 1 2 * A 2 1)) + ((A 1 1 * A 3 3) + (-A 1 3 * A 3 1)) + ((A 2 2 * A 3 3) + (-A 2 3 * A 3 2)))) + A 1 3 * (A 3 0 * (A 0 0 * 0 + A 0 1 * 0 + A 0 2 * 1 + A 0 3 * 0) + A 3 1 * (A 1 0 * 0 + A 1 1 * 0 + A 1 2 * 1 + A 1 3 * 0) + A 3 2 * ((A 2 0 * 0 + A 2 1 * 0 + A 2 2 * 1 + A 2 3 * 0) + -(((A 0 0)) + ((A 1 1)) + ((A 2 2)) + ((A 3 3)))) + A 3 3 * (A 3 0 * 0 + A 3 1 * 0 + A 3 2 * 1 + A 3 3 * 0))) ∧ hh 4 A 3 1 3 = (A 1 0 * (A 0 0 * (A 0 0 * 0 + A 0 1 * 0 + A 0 2 * 0 + A 0 3 * 1) + A 0 1 * (A 1 0 * 0 + A 1 1 * 0 + A 1 2 * 0 + A 1 3 * 1) + A 0 2 * (A 2 0 * 0 + A 2 1 * 0 + A 2 2 * 0 + A 2 3 * 1) + A 0 3 * ((A 3 0 * 0 + A 3 1 * 0 + A 3 2 * 0 + A 3 3 * 1) + -(((A 0 0)) + ((A 1 1)) + ((A 2 2)) + ((A 3 3))))) + A 1 1 * (A 1 0 * (A 0 0 * 0 + A 0 1 * 0 + A 0 2 * 0 + A 0 3 * 1) + A 1 1 * (A 1 0 * 0 + A 1 1 * 0 + A 1 2 * 0 + A 1 3 * 1) + A 1 2 * (A 2 0 * 0 + A 2 1 * 0 + A 2 2 * 0 + A 2 3 * 1) + A 1 3 * ((A 3 0 * 0 + A 3 1 * 0 + A 3 2 * 0 + A 3 3 * 1) + -(((A 0 0)) + ((A 1 1)) + ((A 2 2)) + ((A 3 3))))) + A 1 2 * (A 2 0 * (A 0 0 * 0 + A 0 1 * 0 + A 0 2 * 0 + A 0 3 * 1) + A 2 1 * (A 1 0 * 0 + A 1 1 * 0 + A 1 2 * 0 + A 1 3 * 1) + A 2 2 * (A 2 0 * 0 + A 2 1 * 0 + A 2 2 * 0 + A 2 3 * 1) + A 2 3 * ((A 3 0 * 0 + A 3 1 * 0 + A 3 2 * 0 + A 3 3 * 1) + -(((A 0 0)) + ((A 1 1)) + ((A 2 2)) + ((A 3 3))))) + A 1 3 * ((A 3 0 * (A 0 0 * 0 + A 0 1 * 0 + A 0 2 * 0 + A 0 3 * 1) + A 3 1 * (A 1 0 * 0 + A 1 1 * 0 + A 1 2 * 0 + A 1 3 * 1) + A 3 2 * (A 2 0 * 0 + A 2 1 * 0 + A 2 2 * 0 + A 2 3 * 1) + A 3 3 * ((A 3 0 * 0 + A 3 1 * 0 + A 3 2 * 0 + A 3 3 * 1) + -(((A 0 0)) + ((A 1 1)) + ((A 2 2)) + ((A 3 3))))) + (((A 0 0 * A 1 1) + (-A 0 1 * A 1 0)) + ((A 0 0 * A 2 2) + (-A 0 2 * A 2 0)) + ((A 0 0 * A 3 3) + (-A 0 3 * A 3 0)) + ((A 1 1 * A 2 2) + (-A 1 2 * A 2 1)) + ((A 1 1 * A 3 3) + (-A 1 3 * A 3 1)) + ((A 2 2 * A 3 3) + (-A 2 3 * A 3 2))))) ∧ hh 4 A 3 2 0 = (A 2 0 * ((A 0 0 * ((A 0 0 * 1 + A 0 1 * 0 + A 0 2 * 0 + A 0 3 * 0) + -(((A 0 0)) + ((A 1 1)) + ((A 2 2)) + ((A 3 3)))) + A 0 1 * (A 1 0 * 1 + A 1 1 * 0 + A 1 2 * 0 + A 1 3 * 0) + A 0 2 * (A 2 0 * 1 + A 2 1 * 0 + A 2 2 * 0 + A 2 3 * 0) + A 0 3 * (A 3 0 * 1 + A 3 1 * 0 + A 3 2 * 0 + A 3 3 * 0)) + (((A 0 0 * A 1 1) + (-A 0 1 * A 1 0)) + ((A 0 0 * A 2 2) + (-A 0 2 * A 2 0)) + ((A 0 0 * A 3 3) + (-A 0 3 * A 3 0)) + ((A 1 1 * A 2 2) + (-A 1 2 * A 2 1)) + ((A 1 1 * A 3 3) + (-A 1 3 * A 3 1)) + ((A 2 2 * A 3 3) + (-A 2 3 * A 3 2)))) + A 2 1 * (A 1 0 * ((A 0 0 * 1 + A 0 1 * 0 + A 0 2 * 0 + A 0 3 * 0) + -(((A 0 0)) + ((A 1 1)) + ((A 2 2)) + ((A 3 3)))) + A 1 1 * (A 1 0 * 1 + A 1 1 * 0 + A 1 2 * 0 + A 1 3 * 0) + A 1 2 * (A 2 0 * 1 + A 2 1 * 0 + A 2 2 * 0 + A 2 3 * 0) + A 1 3 * (A 3 0 * 1 + A 3 1 * 0 + A 3 2 * 0 + A 3 3 * 0)) + A 2 2 * (A 2 0 * ((A 0 0 * 1 + A 0 1 * 0 + A 0 2 * 0 + A 0 3 * 0) + -(((A 0 0)) + ((A 1 1)) + ((A 2 2)) + ((A 3 3)))) + A 2 1 * (A 1 0 * 1 + A 1 1 * 0 + A 1 2 * 0 + A 1 3 * 0) + A 2 2 * (A 2 0 * 1 + A 2 1 * 0 + A 2 2 * 0 + A 2 3 * 0) + A 2 3 * (A 3 0 * 1 + A 3 1 * 0 + A 3 2 * 0 + A 3 3 * 0)) + A 2 3 * (A 3 0 * ((A 0 0 * 1 + A 0 1 * 0 + A 0 2 * 0 + A 0 3 * 0) + -(((A 0 0)) + ((A 1 1)) + ((A 2 2)) + ((A 3 3)))) + A 3 1 * (A 1 0 * 1 + A 1 1 * 0 + A 1 2 * 0 + A 1 3 * 0) + A 3 2 * (A 2 0 * 1 + A 2 1 * 0 + A 2 2 * 0 + A 2 3 * 0) + A 3 3 * (A 3 0 * 1 + A 3 1 * 0 + A 3 2 * 0 + A 3 3 * 0))) ∧ hh 4 A 3 2 1 = (A 2 0 * (A 0 0 * (A 0 0 * 0 + A 0 1 * 1 + A 0 2 * 0 + A 0 3 * 0) + A 0 1 * ((A 1 0 * 0 + A 1 1 * 1 + A 1 2 * 0 + A 1 3 * 0) + -(((A 0 0)) + ((A 1 1)) + ((A 2 2)) + ((A 3 3)))) + A 0 2 * (A 2 0 * 0 + A 2 1 * 1 + A 2 2 * 0 + A 2 3 * 0) + A 0 3 * (A 3 0 * 0 + A 3 1 * 1 + A 3 2 * 0 + A 3 3 * 0)) + A 2 1 * ((A 1 0 * (A 0 0 * 0 + A 0 1 * 1 + A 0 2 * 0 + A 0 3 * 0) + A 1 1 * ((A 1 0 * 0 + A 1 1 * 1 + A 1 2 * 0 + A 1 3 * 0) + -(((A 0 0)) + ((A 1 1)) + ((A 2 2)) + ((A 3 3)))) + A 1 2 * (A 2 0 * 0 + A 2 1 * 1 + A 2 2 * 0 + A 2 3 * 0) + A 1 3 * (A 3 0 * 0 + A 3 1 * 1 + A 3 2 * 0 + A 3 3 * 0)) + (((A 0 0 * A 1 1) + (-A 0 1 * A 1 0)) + ((A 0 0 * A 2 2) + (-A 0 2 * A 2 0)) + ((A 0 0 * A 3 3) + (-A 0 3 * A 3 0)) + ((A 1 1 * A 2 2) + (-A 1 2 * A 2 1)) + ((A 1 1 * A 3 3) + (-A 1 3 * A 3 1)) + ((A 2 2 * A 3 3) + (-A 2 3 * A 3 2)))) + A 2 2 * (A 2 0 * (A 0 0 * 0 + A 0 1 * 1 + A 0 2 * 0 + A 0 3 * 0) + A 2 1 * ((A 1 0 * 0 + A 1 1 * 1 + A 1 2 * 0 + A 1 3 * 0) + -(((A 0 0)) + ((A 1 1)) + ((A 2 2)) + ((A 3 3)))) + A 2 2 * (A 2 0 * 0 + A 2 1 * 1 + A 2 2 * 0 + A 2 3 * 0) + A 2 3 * (A 3 0 * 0 + A 3 1 * 1 + A 3 2 * 0 + A 3 3 * 0)) + A 2 3 * (A 3 0 * (A 0 0 * 0 + A 0 1 * 1 + A 0 2 * 0 + A 0 3 * 0) + A 3 1 * ((A 1 0 * 0 + A 1 1 * 1 + A 1 2 * 0 + A 1 3 * 0) + -(((A 0 0)) + ((A 1 1)) + ((A 2 2)) + ((A 3 3)))) + A 3 2 * (A 2 0 * 0 + A 2 1 * 1 + A 2 2 * 0 + A 2 3 * 0) + A 3 3 * (A 3 0 * 0 + A 3 1 * 1 + A 3 2 * 0 + A 3 3 * 0))) ∧ hh 4 A 3 2 2 = ((A 2 0 * (A 0 0 * (A 0 0 * 0 + A 0 1 * 0 + A 0 2 * 1 + A 0 3 * 0) + A 0 1 * (A 1 0 * 0 + A 1 1 * 0 + A 1 2 * 1 + A 1 3 * 0) + A 0 2 * ((A 2 0 * 0 + A 2 1 * 0 + A 2 2 * 1 + A 2 3 * 0) + -(((A 0 0)) + ((A 1 1)) + ((A 2 2)) + ((A 3 3)))) + A 0 3 * (A 3 0 * 0 + A 3 1 * 0 + A 3 2 * 1 + A 3 3 * 0)) + A 2 1 * (A 1 0 * (A 0 0 * 0 + A 0 1 * 0 + A 0 2 * 1 + A 0 3 * 0) + A 1 1 * (A 1 0 * 0 + A 1 1 * 0 + A 1 2 * 1 + A 1 3 * 0) + A 1 2 * ((A 2 0 * 0 + A 2 1 * 0 + A 2 2 * 1 + A 2 3 * 0) + -(((A 0 0)) + ((A 1 1)) + ((A 2 2)) + ((A 3 3)))) + A 1 3 * (A 3 0 * 0 + A 3 1 * 0 + A 3 2 * 1 + A 3 3 * 0)) + A 2 2 * ((A 2 0 * (A 0 0 * 0 + A 0 1 * 0 + A 0 2 * 1 + A 0 3 * 0) + A 2 1 * (A 1 0 * 0 + A 1 1 * 0 + A 1 2 * 1 + A 1 3 * 0) + A 2 2 * ((A 2 0 * 0 + A 2 1 * 0 + A 2 2 * 1 + A 2 3 * 0) + -(((A 0 0)) + ((A 1 1)) + ((A 2 2)) + ((A 3 3)))) + A 2 3 * (A 3 0 * 0 + A 3 1 * 0 + A 3 2 * 1 + A 3 3 * 0)) + (((A 0 0 * A 1 1) + (-A 0 1 * A 1 0)) + ((A 0 0 * A 2 2) + (-A 0 2 * A 2 0)) + ((A 0 0 * A 3 3) + (-A 0 3 * A 3 0)) + ((A 1 1 * A 2 2) + (-A 1 2 * A 2 1)) + ((A 1 1 * A 3 3) + (-A 1 3 * A 3 1)) + ((A 2 2 * A 3 3) + (-A 2 3 * A 3 2)))) + A 2 3 * (A 3 0 * (A 0 0 * 0 + A 0 1 * 0 + A 0 2 * 1 + A 0 3 * 0) + A 3 1 * (A 1 0 * 0 + A 1 1 * 0 + A 1 2 * 1 + A 1 3 * 0) + A 3 2 * ((A 2 0 * 0 + A 2 1 * 0 + A 2 2 * 1 + A 2 3 * 0) + -(((A 0 0)) + ((A 1 1)) + ((A 2 2)) + ((A 3 3)))) + A 3 3 * (A 3 0 * 0 + A 3 1 * 0 + A 3 2 * 1 + A 3 3 * 0))) + -(((A 0 0 * A 1 1 * A 2 2) + (-A 0 0 * A 1 2 * A 2 1) + (-A 0 1 * A 1 0 * A 2 2) + (A 0 1 * A 1 2 * A 2 0) + (A 0 2 * A 1 0 * A 2 1) + (-A 0 2 * A 1 1 * A 2 0)) + ((A 0 0 * A 1 1 * A 3 3) + (-A 0 0 * A 1 3 * A 3 1) + (-A 0 1 * A 1 0 * A 3 3) + (A 0 1 * A 1 3 * A 3 0) + (A 0 3 * A 1 0 * A 3 1) + (-A 0 3 * A 1 1 * A 3 0)) + ((A 0 0 * A 2 2 * A 3 3) + (-A 0 0 * A 2 3 * A 3 2) + (-A 0 2 * A 2 0 * A 3 3) + (A 0 2 * A 2 3 * A 3 0) + (A 0 3 * A 2 0 * A 3 2) + (-A 0 3 * A 2 2 * A 3 0)) + ((A 1 1 * A 2 2 * A 3 3) + (-A 1 1 * A 2 3 * A 3 2) + (-A 1 2 * A 2 1 * A 3 3) + (A 1 2 * A 2 3 * A 3 1) + (A 1 3 * A 2 1 * A 3 2) + (-A 1 3 * A 2 2 * A 3 1)))) ∧ hh 4 A 3 2 3 = (A 2 0 * (A 0 0 * (A 0 0 * 0 + A 0 1 * 0 + A 0 2 * 0 + A 0 3 * 1) + A 0 1 * (A 1 0 * 0 + A 1 1 * 0 + A 1 2 * 0 + A 1 3 * 1) + A 0 2 * (A 2 0 * 0 + A 2 1 * 0 + A 2 2 * 0 + A 2 3 * 1) + A 0 3 * ((A 3 0 * 0 + A 3 1 * 0 + A 3 2 * 0 + A 3 3 * 1) + -(((A 0 0)) + ((A 1 1)) + ((A 2 2)) + ((A 3 3))))) + A 2 1 * (A 1 0 * (A 0 0 * 0 + A 0 1 * 0 + A 0 2 * 0 + A 0 3 * 1) + A 1 1 * (A 1 0 * 0 + A 1 1 * 0 + A 1 2 * 0 + A 1 3 * 1) + A 1 2 * (A 2 0 * 0 + A 2 1 * 0 + A 2 2 * 0 + A 2 3 * 1) + A 1 3 * ((A 3 0 * 0 + A 3 1 * 0 + A 3 2 * 0 + A 3 3 * 1) + -(((A 0 0)) + ((A 1 1)) + ((A 2 2)) + ((A 3 3))))) + A 2 2 * (A 2 0 * (A 0 0 * 0 + A 0 1 * 0 + A 0 2 * 0 + A 0 3 * 1) + A 2 1 * (A 1 0 * 0 + A 1 1 * 0 + A 1 2 * 0 + A 1 3 * 1) + A 2 2 * (A 2 0 * 0 + A 2 1 * 0 + A 2 2 * 0 + A 2 3 * 1) + A 2 3 * ((A 3 0 * 0 + A 3 1 * 0 + A 3 2 * 0 + A 3 3 * 1) + -(((A 0 0)) + ((A 1 1)) + ((A 2 2)) + ((A 3 3))))) + A 2 3 * ((A 3 0 * (A 0 0 * 0 + A 0 1 * 0 + A 0 2 * 0 + A 0 3 * 1) + A 3 1 * (A 1 0 * 0 + A 1 1 * 0 + A 1 2 * 0 + A 1 3 * 1) + A 3 2 * (A 2 0 * 0 + A 2 1 * 0 + A 2 2 * 0 + A 2 3 * 1) + A 3 3 * ((A 3 0 * 0 + A 3 1 * 0 + A 3 2 * 0 + A 3 3 * 1) + -(((A 0 0)) + ((A 1 1)) + ((A 2 2)) + ((A 3 3))))) + (((A 0 0 * A 1 1) + (-A 0 1 * A 1 0)) + ((A 0 0 * A 2 2) + (-A 0 2 * A 2 0)) + ((A 0 0 * A 3 3) + (-A 0 3 * A 3 0)) + ((A 1 1 * A 2 2) + (-A 1 2 * A 2 1)) + ((A 1 1 * A 3 3) + (-A 1 3 * A 3 1)) + ((A 2 2 * A 3 3) + (-A 2 3 * A 3 2))))) ∧ hh 4 A 3 3 0 = (A 3 0 * ((A 0 0 * ((A 0 0 * 1 + A 0 1 * 0 + A 0 2 * 0 + A 0 3 * 0) + -(((A 0 0)) + ((A 1 1)) + ((A 2 2)) + ((A 3 3)))) + A 0 1 * (A 1 0 * 1 + A 1 1 * 0 + A 1 2 * 0 + A 1 3 * 0) + A 0 2 * (A 2 0 * 1 + A 2 1 * 0 + A 2 2 * 0 + A 2 3 * 0) + A 0 3 * (A 3 0 * 1 + A 3 1 * 0 + A 3 2 * 0 + A 3 3 * 0)) + (((A 0 0 * A 1 1) + (-A 0 1 * A 1 0)) + ((A 0 0 * A 2 2) + (-A 0 2 * A 2 0)) + ((A 0 0 * A 3 3) + (-A 0 3 * A 3 0)) + ((A 1 1 * A 2 2) + (-A 1 2 * A 2 1)) + ((A 1 1 * A 3 3) + (-A 1 3 * A 3 1)) + ((A 2 2 * A 3 3) + (-A 2 3 * A 3 2)))) + A 3 1 * (A 1 0 * ((A 0 0 * 1 + A 0 1 * 0 + A 0 2 * 0 + A 0 3 * 0) + -(((A 0 0)) + ((A 1 1)) + ((A 2 2)) + ((A 3 3)))) + A 1 1 * (A 1 0 * 1 + A 1 1 * 0 + A 1 2 * 0 + A 1 3 * 0) + A 1 2 * (A 2 0 * 1 + A 2 1 * 0 + A 2 2 * 0 + A 2 3 * 0) + A 1 3 * (A 3 0 * 1 + A 3 1 * 0 + A 3 2 * 0 + A 3 3 * 0)) + A 3 2 * (A 2 0 * ((A 0 0 * 1 + A 0 1 * 0 + A 0 2 * 0 + A 0 3 * 0) + -(((A 0 0)) + ((A 1 1)) + ((A 2 2)) + ((A 3 3)))) + A 2 1 * (A 1 0 * 1 + A 1 1 * 0 + A 1 2 * 0 + A 1 3 * 0) + A 2 2 * (A 2 0 * 1 + A 2 1 * 0 + A 2 2 * 0 + A 2 3 * 0) + A 2 3 * (A 3 0 * 1 + A 3 1 * 0 + A 3 2 * 0 + A 3 3 * 0)) + A 3 3 * (A 3 0 * ((A 0 0 * 1 + A 0 1 * 0 + A 0 2 * 0 + A 0 3 * 0) + -(((A 0 0)) + ((A 1 1)) + ((A 2 2)) + ((A 3 3)))) + A 3 1 * (A 1 0 * 1 + A 1 1 * 0 + A 1 2 * 0 + A 1 3 * 0) + A 3 2 * (A 2 0 * 1 + A 2 1 * 0 + A 2 2 * 0 + A 2 3 * 0) + A 3 3 * (A 3 0 * 1 + A 3 1 * 0 + A 3 2 * 0 + A 3 3 * 0))) ∧ hh 4 A 3 3 1 = (A 3 0 * (A 0 0 * (A 0 0 * 0 + A 0 1 * 1 + A 0 2 * 0 + A 0 3 * 0) + A 0 1 * ((A 1 0 * 0 + A 1 1 * 1 + A 1 2 * 0 + A 1 3 * 0) + -(((A 0 0)) + ((A 1 1)) + ((A 2 2)) + ((A 3 3)))) + A 0 2 * (A 2 0 * 0 + A 2 1 * 1 + A 2 2 * 0 + A 2 3 * 0) + A 0 3 * (A 3 0 * 0 + A 3 1 * 1 + A 3 2 * 0 + A 3 3 * 0)) + A 3 1 * ((A 1 0 * (A 0 0 * 0 + A 0 1 * 1 + A 0 2 * 0 + A 0 3 * 0) + A 1 1 * ((A 1 0 * 0 + A 1 1 * 1 + A 1 2 * 0 + A 1 3 * 0) + -(((A 0 0)) + ((A 1 1)) + ((A 2 2)) + ((A 3 3)))) + A 1 2 * (A 2 0 * 0 + A 2 1 * 1 + A 2 2 * 0 + A 2 3 * 0) + A 1 3 * (A 3 0 * 0 + A 3 1 * 1 + A 3 2 * 0 + A 3 3 * 0)) + (((A 0 0 * A 1 1) + (-A 0 1 * A 1 0)) + ((A 0 0 * A 2 2) + (-A 0 2 * A 2 0)) + ((A 0 0 * A 3 3) + (-A 0 3 * A 3 0)) + ((A 1 1 * A 2 2) + (-A 1 2 * A 2 1)) + ((A 1 1 * A 3 3) + (-A 1 3 * A 3 1)) + ((A 2 2 * A 3 3) + (-A 2 3 * A 3 2)))) + A 3 2 * (A 2 0 * (A 0 0 * 0 + A 0 1 * 1 + A 0 2 * 0 + A 0 3 * 0) + A 2 1 * ((A 1 0 * 0 + A 1 1 * 1 + A 1 2 * 0 + A 1 3 * 0) + -(((A 0 0)) + ((A 1 1)) + ((A 2 2)) + ((A 3 3)))) + A 2 2 * (A 2 0 * 0 + A 2 1 * 1 + A 2 2 * 0 + A 2 3 * 0) + A 2 3 * (A 3 0 * 0 + A 3 1 * 1 + A 3 2 * 0 + A 3 3 * 0)) + A 3 3 * (A 3 0 * (A 0 0 * 0 + A 0 1 * 1 + A 0 2 * 0 + A 0 3 * 0) + A 3 1 * ((A 1 0 * 0 + A 1 1 * 1 + A 1 2 * 0 + A 1 3 * 0) + -(((A 0 0)) + ((A 1 1)) + ((A 2 2)) + ((A 3 3)))) + A 3 2 * (A 2 0 * 0 + A 2 1 * 1 + A 2 2 * 0 + A 2 3 * 0) + A 3 3 * (A 3 0 * 0 + A 3 1 * 1 + A 3 2 * 0 + A 3 3 * 0))) ∧ hh 4 A 3 3 2 = (A 3 0 * (A 0 0 * (A 0 0 * 0 + A 0 1 * 0 + A 0 2 * 1 + A 0 3 * 0) + A 0 1 * (A 1 0 * 0 + A 1 1 * 0 + A 1 2 * 1 + A 1 3 * 0) + A 0 2 * ((A 2 0 * 0 + A 2 1 * 0 + A 2 2 * 1 + A 2 3 * 0) + -(((A 0 0)) + ((A 1 1)) + ((A 2 2)) + ((A 3 3)))) + A 0 3 * (A 3 0 * 0 + A 3 1 * 0 + A 3 2 * 1 + A 3 3 * 0)) + A 3 1 * (A 1 0 * (A 0 0 * 0 + A 0 1 * 0 + A 0 2 * 1 + A 0 3 * 0) + A 1 1 * (A 1 0 * 0 + A 1 1 * 0 + A 1 2 * 1 + A 1 3 * 0) + A 1 2 * ((A 2 0 * 0 + A 2 1 * 0 + A 2 2 * 1 + A 2 3 * 0) + -(((A 0 0)) + ((A 1 1)) + ((A 2 2)) + ((A 3 3)))) + A 1 3 * (A 3 0 * 0 + A 3 1 * 0 + A 3 2 * 1 + A 3 3 * 0)) + A 3 2 * ((A 2 0 * (A 0 0 * 0 + A 0 1 * 0 + A 0 2 * 1 + A 0 3 * 0) + A 2 1 * (A 1 0 * 0 + A 1 1 * 0 + A 1 2 * 1 + A 1 3 * 0) + A 2 2 * ((A 2 0 * 0 + A 2 1 * 0 + A 2 2 * 1 + A 2 3 * 0) + -(((A 0 0)) + ((A 1 1)) + ((A 2 2)) + ((A 3 3)))) + A 2 3 * (A 3 0 * 0 + A 3 1 * 0 + A 3 2 * 1 + A 3 3 * 0)) + (((A 0 0 * A 1 1) + (-A 0 1 * A 1 0)) + ((A 0 0 * A 2 2) + (-A 0 2 * A 2 0)) + ((A 0 0 * A 3 3) + (-A 0 3 * A 3 0)) + ((A 1 1 * A 2 2) + (-A 1 2 * A 2 1)) + ((A 1 1 * A 3 3) + (-A 1 3 * A 3 1)) + ((A 2 2 * A 3 3) + (-A 2 3 * A 3 2)))) + A 3 3 * (A 3 0 * (A 0 0 * 0 + A 0 1 * 0 + A 0 2 * 1 + A 0 3 * 0) + A 3 1 * (A 1 0 * 0 + A 1 1 * 0 + A 1 2 * 1 + A 1 3 * 0) + A 3 2 * ((A 2 0 * 0 + A 2 1 * 0 + A 2 2 * 1 + A 2 3 * 0) + -(((A 0 0)) + ((A 1 1)) + ((A 2 2)) + ((A 3 3)))) + A 3 3 * (A 3 0 * 0 + A 3 1 * 0 + A 3 2 * 1 + A 3 3 * 0))) ∧ hh 4 A 3 3 3 = ((A 3 0 * (A 0 0 * (A 0 0 * 0 + A 0 1 * 0 + A 0 2 * 0 + A 0 3 * 1) + A 0 1 * (A 1 0 * 0 + A 1 1 * 0 + A 1 2 * 0 + A 1 3 * 1) + A 0 2 * (A 2 0 * 0 + A 2 1 * 0 + A 2 2 * 0 + A 2 3 * 1) + A 0 3 * ((A 3 0 * 0 + A 3 1 * 0 + A 3 2 * 0 + A 3 3 * 1) + -(((A 0 0)) + ((A 1 1)) + ((A 2 2)) + ((A 3 3))))) + A 3 1 * (A 1 0 * (A 0 0 * 0 + A 0 1 * 0 + A 0 2 * 0 + A 0 3 * 1) + A 1 1 * (A 1 0 * 0 + A 1 1 * 0 + A 1 2 * 0 + A 1 3 * 1) + A 1 2 * (A 2 0 * 0 + A 2 1 * 0 + A 2 2 * 0 + A 2 3 * 1) + A 1 3 * ((A 3 0 * 0 + A 3 1 * 0 + A 3 2 * 0 + A 3 3 * 1) + -(((A 0 0)) + ((A 1 1)) + ((A 2 2)) + ((A 3 3))))) + A 3 2 * (A 2 0 * (A 0 0 * 0 + A 0 1 * 0 + A 0 2 * 0 + A 0 3 * 1) + A 2 1 * (A 1 0 * 0 + A 1 1 * 0 + A 1 2 * 0 + A 1 3 * 1) + A 2 2 * (A 2 0 * 0 + A 2 1 * 0 + A 2 2 * 0 + A 2 3 * 1) + A 2 3 * ((A 3 0 * 0 + A 3 1 * 0 + A 3 2 * 0 + A 3 3 * 1) + -(((A 0 0)) + ((A 1 1)) + ((A 2 2)) + ((A 3 3))))) + A 3 3 * ((A 3 0 * (A 0 0 * 0 + A 0 1 * 0 + A 0 2 * 0 + A 0 3 * 1) + A 3 1 * (A 1 0 * 0 + A 1 1 * 0 + A 1 2 * 0 + A 1 3 * 1) + A 3 2 * (A 2 0 * 0 + A 2 1 * 0 + A 2 2 * 0 + A 2 3 * 1) + A 3 3 * ((A 3 0 * 0 + A 3 1 * 0 + A 3 2 * 0 + A 3 3 * 1) + -(((A 0 0)) + ((A 1 1)) + ((A 2 2)) + ((A 3 3))))) + (((A 0 0 * A 1 1) + (-A 0 1 * A 1 0)) + ((A 0 0 * A 2 2) + (-A 0 2 * A 2 0)) + ((A 0 0 * A 3 3) + (-A 0 3 * A 3 0)) + ((A 1 1 * A 2 2) + (-A 1 2 * A 2 1)) + ((A 1 1 * A 3 3) + (-A 1 3 * A 3 1)) + ((A 2 2 * A 3 3) + (-A 2 3 * A 3 2))))) + -(((A 0 0 * A 1 1 * A 2 2) + (-A 0 0 * A 1 2 * A 2 1) + (-A 0 1 * A 1 0 * A 2 2) + (A 0 1 * A 1 2 * A 2 0) + (A 0 2 * A 1 0 * A 2 1) + (-A 0 2 * A 1 1 * A 2 0)) + ((A 0 0 * A 1 1 * A 3 3) + (-A 0 0 * A 1 3 * A 3 1) + (-A 0 1 * A 1 0 * A 3 3) + (A 0 1 * A 1 3 * A 3 0) + (A 0 3 * A 1 0 * A 3 1) + (-A 0 3 * A 1 1 * A 3 0)) + ((A 0 0 * A 2 2 * A 3 3) + (-A 0 0 * A 2 3 * A 3 2) + (-A 0 2 * A 2 0 * A 3 3) + (A 0 2 * A 2 3 * A 3 0) + (A 0 3 * A 2 0 * A 3 2) + (-A 0 3 * A 2 2 * A 3 0)) + ((A 1 1 * A 2 2 * A 3 3) + (-A 1 1 * A 2 3 * A 3 2) + (-A 1 2 * A 2 1 * A 3 3) + (A 1 2 * A 2 3 * A 3 1) + (A 1 3 * A 2 1 * A 3 2) + (-A 1 3 * A 2 2 * A 3 1)))) := by
  simp only [hs4_3, mul, S4, h4_2 A, c4_3 A, one4, e4_3, Int.mul_one, Int.mul_zero, Int.add_zero, true_and, and_true, and_self]
theorem t4_4 (A : M) : tr 4 (mul 4 A (hh 4 A 3)) = -(((3 : Nat) : Int) + 1) * e4_4 A := by
  simp only [tr, mul, S4, h4_3 A, e4_4]; generalize A 0 0 = a00; generalize A 0 1 = a01; generalize A 0 2 = a02; generalize A 0 3 = a03; generalize A 1 0 = a10; generalize A 1 1 = a11; generalize A 1 2 = a12; generalize A 1 3 = a13; generalize A 2 0 = a20; generalize A 2 1 = a21; generalize A 2 2 = a22; generalize A 2 3 = a23; generalize A 3 0 = a30; generalize A 3 1 = a31; generalize A 3 2 = a32; generalize A 3 3 = a33; grind
theorem c4_4 (A : M) : cc 4 A 4 = e4_4 A := cc_of (t4_4 A)
theorem hs4_4 (A : M) (i j : Nat) : hh 4 A 4 i j = mul 4 A (hh 4 A 3) i j + cc 4 A 4 * one 4 i j := hh_succ 4 A 3 i j
theorem ch4 (A : M) : hh 4 A 4 0 0 = 0 ∧ hh 4 A 4 0 1 = 0 ∧ hh 4 A 4 0 2 = 0 ∧ hh 4 A 4 0 3 = 0 ∧ hh 4 A 4 1 0 = 0 ∧ hh 4 A 4 1 1 = 0 ∧ hh 4 A 4 1 2 = 0 ∧ hh 4 A 4 1 3 = 0 ∧ hh 4 A 4 2 0 = 0 ∧ hh 4 A 4 2 1 = 0 ∧ hh 4 A 4 2 2 = 0 ∧ hh 4 A 4 2 3 = 0 ∧ hh 4 A 4 3 0 = 0 ∧ hh 4 A 4 3 1 = 0 ∧ hh 4 A 4 3 2 = 0 ∧ hh 4 A 4 3 3 = 0 := by
  simp only [hs4_4, mul, S4, h4_3 A, c4_4 A, one4, e4_4]
  generalize A 0 0 = a00; generalize A 0 1 = a01; generalize A 0 2 = a02; generalize A 0 3 = a03; generalize A 1 0 = a10; generalize A 1 1 = a11; generalize A 1 2 = a12; generalize A 1 3 = a13; generalize A 2 0 = a20; generalize A 2 1 = a21; generalize A 2 2 = a22; generalize A 2 3 = a23; generalize A 3 0 = a30; generalize A 3 1 = a31; generalize A 3 2 = a32; generalize A 3 3 = a33
  refine ⟨?_, ?_, ?_, ?_, ?_, ?_, ?_, ?_, ?_, ?_, ?_, ?_, ?_, ?_, ?_, ?_⟩ <;> grind
end KM

set_option linter.all false
set_option maxRecDepth 100000
set_option maxHeartbeats 2000000
namespace KM
theorem sup_hh {n : Nat} {A : M} (h : Sup n A) : ∀ k, Sup n (hh n A k)
  | 0 => sup_one n
  | k + 1 => fun i j hij => by rw [hh_succ, sup_mul h (sup_hh h k) i j hij, sup_one n i j hij]; simp
theorem sup_zero {n : Nat} {f : M} (h : Sup n f) (h2 : ∀ i, i < n → ∀ j, j < n → f i j = 0) : f = fun _ _ => 0 := by
  funext i j
  by_cases c : i < n ∧ j < n
  · exact h2 i c.1 j c.2
  · exact h i j (by omega)
theorem lt1 {i : Nat} (h : i < 1) : i = 0 := by omega
theorem lt2 {i : Nat} (h : i < 2) : i = 0 ∨ i = 1 := by omega
theorem lt3 {i : Nat} (h : i < 3) : i = 0 ∨ i = 1 ∨ i = 2 := by omega
theorem lt4 {i : Nat} (h : i < 4) : i = 0 ∨ i = 1 ∨ i = 2 ∨ i = 3 := by omega
theorem le4 {n : Nat} (h : n ≤ 4) : n = 0 ∨ n = 1 ∨ n = 2 ∨ n = 3 ∨ n = 4 := by omega
theorem ch {n : Nat} {A : M} (hn : n ≤ 4) (h : Sup n A) : hh n A n = fun _ _ => 0 := by
  refine sup_zero (sup_hh h n) ?_
  rcases le4 hn with rfl | rfl | rfl | rfl | rfl
  · intro i hi; omega
  · intro i hi j hj
    rcases lt1 hi with rfl
    rcases lt1 hj with rfl
    exact ch1 A
  · have := ch2 A
    intro i hi j hj
    rcases lt2 hi with rfl | rfl <;> rcases lt2 hj with rfl | rfl <;> simp only [this]
  · have := ch3 A
    intro i hi j hj
    rcases lt3 hi with rfl | rfl | rfl <;> rcases lt3 hj with rfl | rfl | rfl <;> simp only [this]
  · have := ch4 A
    intro i hi j hj
    rcases lt4 hi with rfl | rfl | rfl | rfl <;> rcases lt4 hj with rfl | rfl | rfl | rfl <;> simp only [this]
theorem trc {n : Nat} {A : M} (hn : n ≤ 4) (k : Nat) (hk : k < n) : tr n (mul n A (hh n A k)) = -((k : Int) + 1) * cc n A (k + 1) := by
  rcases le4 hn with rfl | rfl | rfl | rfl | rfl
  · omega
  · rcases lt1 hk with rfl
    rw [c1_1]; exact t1_1 A
  · rcases lt2 hk with rfl | rfl
    · rw [c2_1]; exact t2_1 A
    · rw [c2_2]; exact t2_2 A
  · rcases lt3 hk with rfl | rfl | rfl
    · rw [c3_1]; exact t3_1 A
    · rw [c3_2]; exact t3_2 A
    · rw [c3_3]; exact t3_3 A
  · rcases lt4 hk with rfl | rfl | rfl | rfl
    · rw [c4_1]; exact t4_1 A
    · rw [c4_2]; exact t4_2 A
    · rw [c4_3]; exact t4_3 A
    · rw [c4_4]; exact t4_4 A
def c' (n : Nat) (A : M) (j : Nat) : Int := if j ≤ n then cc n A j else 0
def h' (n : Nat) (A : M) (k : Nat) : M := if k ≤ n then hh n A k else fun _ _ => 0
theorem mul_zero (n : Nat) (f : M) : mul n f (fun _ _ => 0) = fun _ _ => 0 := by
  funext i j
  exact S_nil fun k _ => Int.mul_zero _
theorem h'_succ {n : Nat} {A : M} (hn : n ≤ 4) (h : Sup n A) (k : Nat) : h' n A (k + 1) = fun i j => mul n A (h' n A k) i j + c' n A (k + 1) * one n i j := by
  unfold h' c'
  by_cases c : k + 1 ≤ n
  · rw [if_pos c, if_pos (by omega), if_pos c]; rfl
  · rw [if_neg c, if_neg c]
    by_cases d : k ≤ n
    · have : k = n := by omega
      subst this
      rw [if_pos d, ch hn h, mul_zero]; funext i j; simp
    · rw [if_neg d, mul_zero]; funext i j; simp
theorem tr' {n : Nat} {A : M} (hn : n ≤ 4) (h : Sup n A) (k : Nat) : tr n (mul n A (h' n A k)) = -((k : Int) + 1) * c' n A (k + 1) := by
  unfold h' c'
  by_cases c : k + 1 ≤ n
  · rw [if_pos (by omega), if_pos c]; exact trc hn k (by omega)
  · rw [if_neg c]
    have z : (if k ≤ n then hh n A k else fun _ _ => 0) = fun _ _ => 0 := by
      by_cases d : k ≤ n
      · have : k = n := by omega
        subst this
        rw [if_pos d, ch hn h]
      · rw [if_neg d]
    rw [z, mul_zero, Int.mul_zero]
    exact S_nil fun _ _ => rfl
theorem tr_add (n : Nat) (f g : M) : tr n (fun i j => f i j + g i j) = tr n f + tr n g := S_add n _ _
theorem tr_scal (n : Nat) (c : Int) (f : M) : tr n (fun i j => c * f i j) = c * tr n f := S_mulL n _ _
theorem mul_add (n : Nat) (f g h : M) : mul n f (fun i j => g i j + h i j) = fun i j => mul n f g i j + mul n f h i j := by
  funext i j
  show S n (fun k => f i k * (g k j + h k j)) = _
  rw [show (fun k => f i k * (g k j + h k j)) = fun k => f i k * g k j + f i k * h k j from funext fun k => Int.mul_add ..]
  exact S_add n _ _
theorem mul_scal (n : Nat) (c : Int) (f g : M) : mul n f (fun i j => c * g i j) = fun i j => c * mul n f g i j := by
  funext i j
  show S n (fun k => f i k * (c * g k j)) = _
  rw [show (fun k => f i k * (c * g k j)) = fun k => c * (f i k * g k j) from funext fun k => by rw [← Int.mul_assoc, Int.mul_comm (f i k) c, Int.mul_assoc]]
  exact S_mulL n _ _
def p (n : Nat) (A : M) (k : Nat) : Int := tr n (pw n A k)
theorem q_all {n : Nat} {A : M} (hn : n ≤ 4) (h : Sup n A) : ∀ k m, tr n (mul n (pw n A m) (h' n A k)) = p n A (m + k) + S k fun j => c' n A (j + 1) * p n A (m + k - (j + 1))
  | 0, m => by
    show tr n (mul n (pw n A m) (h' n A 0)) = p n A m + 0
    rw [show h' n A 0 = one n from by unfold h'; rw [if_pos (Nat.zero_le _)]; rfl, mul_one (sup_pw h m), Int.add_zero]; rfl
  | k + 1, m => by
    rw [h'_succ hn h, mul_add, tr_add, mul_scal, tr_scal, mul_one (sup_pw h m), ← mul_assoc, show mul n (pw n A m) A = pw n A (m + 1) from rfl, q_all hn h k (m + 1), S_succ]
    rw [show m + 1 + k = m + (k + 1) by omega, show m + (k + 1) - (k + 1) = m by omega]
    show _ + c' n A (k + 1) * p n A m = _
    omega
theorem newton {n : Nat} {A : M} (hn : n ≤ 4) (h : Sup n A) (k : Nat) : p n A (k + 1) + S k (fun j => c' n A (j + 1) * p n A (k - j)) = -((k : Int) + 1) * c' n A (k + 1) := by
  rw [← tr' hn h k]
  have := q_all hn h k 1
  rw [pw_one h] at this
  rw [this, Nat.add_comm 1 k]
  congr 1
  refine S_congr fun j _ => ?_
  rw [show k + 1 - (j + 1) = k - j by omega]
/-! ### nilpotent -/
theorem hh_pw {n : Nat} {A : M} (h : Sup n A) : ∀ k, (∀ j, j < k → cc n A (j + 1) = 0) → hh n A k = pw n A k
  | 0, _ => rfl
  | k + 1, hc => by
    funext i j
    rw [hh_succ, hc k (by omega), hh_pw h k fun j hj => hc j (by omega), pw_left h]
    simp
theorem nil_of {n : Nat} {A : M} (hn : n ≤ 4) (h : Sup n A) (hc : ∀ j, j < n → cc n A (j + 1) = 0) : pw n A n = fun _ _ => 0 := by
  rw [← hh_pw h n hc, ch hn h]
theorem pw_zero {n : Nat} {A : M} (h : Sup n A) (z : pw n A n = fun _ _ => 0) : ∀ k, p n A (n + k) = 0 := fun k => by
  unfold p
  rw [← pw_add h, z]
  exact S_nil fun i _ => S_nil fun j _ => Int.zero_mul _
theorem mz {a b : Int} (h : a * b = 0) (ha : a ≠ 0) : b = 0 := (Int.mul_eq_zero.mp h).resolve_left ha
theorem nil_to {n : Nat} {A : M} (hn : n ≤ 4) (h : Sup n A) (z : pw n A n = fun _ _ => 0) : ∀ j, j < n → cc n A (j + 1) = 0 := by
  have P := pw_zero h z
  have N := newton hn h
  clear h z
  rcases le4 hn with rfl | rfl | rfl | rfl | rfl
  · intro j hj; omega
  · have p1 := P 0
    have n0 := N 0
    simp [S, c'] at p1 n0
    intro j hj
    rcases lt1 hj with rfl
    rw [p1] at n0; simp only [Nat.zero_add] at *; omega
  · have p2 := P 0; have p3 := P 1
    have n0 := N 0; have n1 := N 1; have n2 := N 2
    simp [S, c', List.range, List.range.loop] at p2 p3 n0 n1 n2
    clear P N
    intro j hj
    have c2 : cc 2 A 2 = 0 := by
      refine Classical.byContradiction fun c => ?_
      have : p 2 A 1 = 0 := mz (a := cc 2 A 2) (by grind) c
      grind
    have c1 : cc 2 A 1 * cc 2 A 1 = 0 := by grind
    have c1 : cc 2 A 1 = 0 := by rcases Int.mul_eq_zero.mp c1 with c | c <;> exact c
    rcases lt2 hj with rfl | rfl <;> assumption
  · have p3 := P 0; have p4 := P 1; have p5 := P 2
    have n0 := N 0; have n1 := N 1; have n2 := N 2; have n3 := N 3; have n4 := N 4
    simp [S, c', List.range, List.range.loop] at p3 p4 p5 n0 n1 n2 n3 n4
    clear P N
    intro j hj
    have c3 : cc 3 A 3 = 0 := by
      refine Classical.byContradiction fun c => ?_
      have : p 3 A 2 = 0 := mz (a := cc 3 A 3) (by grind) c
      have : p 3 A 1 = 0 := mz (a := cc 3 A 3) (by grind) c
      grind
    have c2 : cc 3 A 2 = 0 := by
      refine Classical.byContradiction fun c => ?_
      have : p 3 A 2 = 0 := mz (a := cc 3 A 2) (by grind) c
      have : p 3 A 1 = 0 := mz (a := cc 3 A 2) (by grind) c
      grind
    have c1 : cc 3 A 1 = 0 := by
      refine Classical.byContradiction fun c => ?_
      have : p 3 A 2 = 0 := mz (a := cc 3 A 1) (by grind) c
      have : p 3 A 1 = 0 := mz (a := cc 3 A 1) (by grind) c
      grind
    rcases lt3 hj with rfl | rfl | rfl <;> assumption
  · have p4 := P 0; have p5 := P 1; have p6 := P 2; have p7 := P 3
    have n0 := N 0; have n1 := N 1; have n2 := N 2; have n3 := N 3; have n4 := N 4; have n5 := N 5; have n6 := N 6
    simp [S, c', List.range, List.range.loop] at p4 p5 p6 p7 n0 n1 n2 n3 n4 n5 n6
    clear P N
    intro j hj
    have c4 : cc 4 A 4 = 0 := by
      refine Classical.byContradiction fun c => ?_
      have : p 4 A 3 = 0 := mz (a := cc 4 A 4) (by grind) c
      have : p 4 A 2 = 0 := mz (a := cc 4 A 4) (by grind) c
      have : p 4 A 1 = 0 := mz (a := cc 4 A 4) (by grind) c
      grind
    have c3 : cc 4 A 3 = 0 := by
      refine Classical.byContradiction fun c => ?_
      have : p 4 A 3 = 0 := mz (a := cc 4 A 3) (by grind) c
      have : p 4 A 2 = 0 := mz (a := cc 4 A 3) (by grind) c
      have : p 4 A 1 = 0 := mz (a := cc 4 A 3) (by grind) c
      grind
    have c2 : cc 4 A 2 = 0 := by
      refine Classical.byContradiction fun c => ?_
      have : p 4 A 3 = 0 := mz (a := cc 4 A 2) (by grind) c
      have : p 4 A 2 = 0 := mz (a := cc 4 A 2) (by grind) c
      have : p 4 A 1 = 0 := mz (a := cc 4 A 2) (by grind) c
      grind
    have c1 : cc 4 A 1 = 0 := by
      refine Classical.byContradiction fun c => ?_
      have : p 4 A 3 = 0 := mz (a := cc 4 A 1) (by grind) c
      have : p 4 A 2 = 0 := mz (a := cc 4 A 1) (by grind) c
      have : p 4 A 1 = 0 := mz (a := cc 4 A 1) (by grind) c
      grind
    rcases lt4 hj with rfl | rfl | rfl | rfl <;> assumption
end KM

set_option linter.all false
set_option maxRecDepth 100000
set_option maxHeartbeats 4000000
namespace KM
def ldF : Nat → M → Int
  | 0, _ => 1
  | n + 1, f => S (n + 1) fun j => f 0 j * (if j % 2 = 0 then 1 else -1) * ldF n fun i l => f (i + 1) (if l < j then l else l + 1)
theorem ld1 (f : M) : ldF 1 f = f 0 0 := by
  simp [ldF, S1]
theorem ld2 (f : M) : ldF 2 f = f 0 0 * f 1 1 - f 0 1 * f 1 0 := by
  show S 2 _ = _
  rw [S2]
  simp only [ld1]
  simp
  grind
theorem ld3 (f : M) : ldF 3 f = f 0 0 * (f 1 1 * f 2 2 - f 1 2 * f 2 1) - f 0 1 * (f 1 0 * f 2 2 - f 1 2 * f 2 0) + f 0 2 * (f 1 0 * f 2 1 - f 1 1 * f 2 0) := by
  show S 3 _ = _
  rw [S3]
  simp only [ld2]
  simp
  grind
theorem ld4 (f : M) : ldF 4 f = f 0 0 * ldF 3 (fun i l => f (i + 1) (l + 1)) - f 0 1 * ldF 3 (fun i l => f (i + 1) (if l < 1 then l else l + 1)) + f 0 2 * ldF 3 (fun i l => f (i + 1) (if l < 2 then l else l + 1)) - f 0 3 * ldF 3 (fun i l => f (i + 1) (if l < 3 then l else l + 1)) := by
  show S 4 _ = _
  rw [S4]
  simp
  grind
def dn (n : Nat) (A : M) : Int := if n % 2 = 0 then cc n A n else 0 - cc n A n
def ch' (A : M) (x : Int) : M := fun i j => x * (if i = j then 1 else 0) - A i j
def hor (n : Nat) (A : M) (x : Int) : Int := (List.range (n + 1)).foldl (fun v k => v * x + cc n A k) 0
theorem det_all {n : Nat} (A : M) (hn : n ≤ 4) : dn n A = ldF n A := by
  unfold dn
  rcases le4 hn with rfl | rfl | rfl | rfl | rfl
  · rfl
  · rw [ld1, c1_1]; simp [e1_1]
  · rw [ld2, c2_2]; simp [e2_2]; grind
  · rw [ld3, c3_3]; simp [e3_3]; grind
  · rw [ld4, c4_4]; simp only [ld3, e4_4]; simp; generalize A 0 0 = a00; generalize A 0 1 = a01; generalize A 0 2 = a02; generalize A 0 3 = a03; grind
theorem chr_all {n : Nat} (A : M) (x : Int) (hn : n ≤ 4) : hor n A x = ldF n (ch' A x) := by
  unfold hor
  rcases le4 hn with rfl | rfl | rfl | rfl | rfl
  · rw [show List.range (0 + 1) = [0] from rfl]
    simp [ldF]; rfl
  · rw [show List.range (1 + 1) = [0, 1] from rfl, ld1]
    simp only [List.foldl, c1_1, show cc 1 A 0 = 1 from rfl, ch', e1_1]; simp; grind
  · rw [show List.range (2 + 1) = [0, 1, 2] from rfl, ld2]
    simp only [List.foldl, c2_1, c2_2, show cc 2 A 0 = 1 from rfl, ch', e2_1, e2_2]; simp; grind
  · rw [show List.range (3 + 1) = [0, 1, 2, 3] from rfl, ld3]
    simp only [List.foldl, c3_1, c3_2, c3_3, show cc 3 A 0 = 1 from rfl, ch', e3_1, e3_2, e3_3]; simp; grind
  · rw [show List.range (4 + 1) = [0, 1, 2, 3, 4] from rfl, ld4]
    simp only [List.foldl, c4_1, c4_2, c4_3, c4_4, show cc 4 A 0 = 1 from rfl, ld3, ch', e4_1, e4_2, e4_3, e4_4]; simp; grind
theorem ld_congr : ∀ {n : Nat} {f g : M}, (∀ i, i < n → ∀ j, j < n → f i j = g i j) → ldF n f = ldF n g
  | 0, _, _, _ => rfl
  | n + 1, f, g, h => by
    refine S_congr fun j hj => ?_
    rw [h 0 (by omega) j hj, ld_congr (n := n) (f := fun i l => f (i + 1) (if l < j then l else l + 1)) (g := fun i l => g (i + 1) (if l < j then l else l + 1)) fun i hi l hl => h (i + 1) (by omega) _ (by split <;> omega)]
end KM

set_option Elab.async false
set_option linter.all false
set_option maxRecDepth 100000
set_option maxHeartbeats 2000000
namespace LW

open PySem L2 Px Py KM
theorem lt_lim {n : Nat} (h : n ≤ 16) : n < lim := by show n < 16777216; omega
theorem S_bd {n B : Nat} {f : Nat → Int} (h : ∀ k, k < n → (f k).natAbs ≤ B) : (S n f).natAbs ≤ n * B := by
  induction n with
  | zero => simp [S_zero]
  | succ n ih =>
    rw [S_succ, Nat.succ_mul]
    have := ih fun k hk => h k (by omega)
    have := h n (by omega)
    omega
theorem S_bd4 {n c : Nat} {f : Nat → Int} (hn : n ≤ 4) (h : ∀ k, k < n → (f k).natAbs < 2 ^ c) : (S n f).natAbs < 2 ^ (c + 2) := by
  have h0 : 0 < 2 ^ c := Nat.two_pow_pos c
  have := S_bd (n := n) (f := f) (B := 2 ^ c - 1) fun k hk => by
    have := h k hk
    omega
  have h2 : n * (2 ^ c - 1) ≤ 4 * (2 ^ c - 1) := Nat.mul_le_mul_right _ hn
  rw [Nat.pow_add]
  omega
def Bd (b : Nat) (f : M) : Prop := ∀ i j, (f i j).natAbs < 2 ^ b
theorem bd_le {a b : Nat} {f : M} (h : Bd a f) (hab : a ≤ b) : Bd b f := fun i j => Nat.lt_of_lt_of_le (h i j) (Nat.pow_le_pow_right (by decide) hab)
theorem prod_bd {x y : Int} {a b : Nat} (h1 : x.natAbs < 2 ^ a) (h2 : y.natAbs < 2 ^ b) : (x * y).natAbs < 2 ^ (a + b) := by
  rw [Int.natAbs_mul, Nat.pow_add]
  exact Nat.mul_lt_mul'' h1 h2
theorem bd_mul {n a b : Nat} {f g : M} (hn : n ≤ 4) (h1 : Bd a f) (h2 : Bd b g) : Bd (a + b + 2) (mul n f g) := fun i j => S_bd4 hn fun k _ => prod_bd (h1 i k) (h2 k j)
theorem bd_one {n : Nat} : Bd 1 (one n) := fun i j => by unfold one; split <;> decide
theorem add_bd {x y : Int} {b : Nat} (h1 : x.natAbs < 2 ^ b) (h2 : y.natAbs < 2 ^ b) : (x + y).natAbs < 2 ^ (b + 1) := by rw [Nat.pow_succ]; omega
theorem ws_app {G : Sig} {i : Nat} {e : E} {ρ ρ1 : PEnv} {d : D} {xs : List D} {Q : Flw → PEnv → Prop} (ho : isOwn (getS ρ i) = true) (h : ev G e ρ = .ok (d, ρ1)) (h2 : getS ρ1 i = some (.own xs)) (hl : xs.length < lim) (q : Q .nx (ρ1.set i (some (.own (xs ++ [d]))))) : WS1 G (.app i e) ρ Q :=
  ⟨_, _, by unfold ex; rw [if_pos ho, h, Out.bind_okS]; simp only [h2]; rw [if_pos hl], q⟩
theorem ws_par {G : Sig} {oi oj : Bool} {i j : Nat} {a b : E} {ρ ρ1 ρ2 : PEnv} {s t : Slot} {Q : Flw → PEnv → Prop} (h1 : evc G oi a ρ = .ok (s, ρ1)) (h2 : evc G oj b ρ1 = .ok (t, ρ2)) (q : Q .nx ((ρ2.set i (some s)).set j (some t))) : WS1 G (.par oi i oj j a b) ρ Q :=
  ⟨_, _, by unfold ex; rw [h1, Out.bind_okS, h2, Out.bind_okS], q⟩
theorem ws_aug {G : Sig} {i : Nat} {op : Operator} {e : E} {ρ ρ1 : PEnv} {d c z : D} {Q : Flw → PEnv → Prop} (h0 : getS ρ i = some (.dat d)) (h : ev G e ρ = .ok (c, ρ1)) (h2 : augF op d c = some z) (q : Q .nx (ρ1.set i (some (.dat z)))) : WS1 G (.aug i op e) ρ Q :=
  ⟨_, _, by unfold ex; rw [h0]; simp only []; rw [h, Out.bind_okS, h2, Out.of_someS, Out.bind_okS], q⟩
theorem evc_f {G : Sig} {e : E} {ρ ρ1 : PEnv} {d : D} (h : ev G e ρ = .ok (d, ρ1)) : evc G false e ρ = .ok (.dat d, ρ1) := by
  unfold evc; rw [h]; rfl
theorem evc_t {G : Sig} {e : E} {ρ ρ1 : PEnv} {s : Slot} (h : evo G e ρ = .ok (s, ρ1)) : evc G true e ρ = .ok (s, ρ1) := h
theorem ev_call1 {G : Sig} {f : Str} {e : E} {ρ ρ1 : PEnv} {d r : D} (h : ev G e ρ = .ok (d, ρ1)) (hc : callV G f [d] = .ok (.dat r)) : ev G (.call f [.ex e]) ρ = .ok (r, ρ1) :=
  Py.ev_call (ds := [d]) (opnds_ex h opnds_nil) hc
theorem ev_call2 {G : Sig} {f : Str} {e e' : E} {ρ ρ1 ρ2 : PEnv} {d d' r : D} (h : ev G e ρ = .ok (d, ρ1)) (h' : ev G e' ρ1 = .ok (d', ρ2)) (hc : callV G f [d, d'] = .ok (.dat r)) : ev G (.call f [.ex e, .ex e']) ρ = .ok (r, ρ2) :=
  Py.ev_call (ds := [d, d']) (opnds_ex h (opnds_ex h' opnds_nil)) hc
theorem ev_call3 {G : Sig} {f : Str} {e e' e'' : E} {ρ ρ1 ρ2 ρ3 : PEnv} {d d' d'' r : D} (h : ev G e ρ = .ok (d, ρ1)) (h' : ev G e' ρ1 = .ok (d', ρ2)) (h'' : ev G e'' ρ2 = .ok (d'', ρ3)) (hc : callV G f [d, d', d''] = .ok (.dat r)) : ev G (.call f [.ex e, .ex e', .ex e'']) ρ = .ok (r, ρ3) :=
  Py.ev_call (ds := [d, d', d'']) (opnds_ex h (opnds_ex h' (opnds_ex h'' opnds_nil))) hc
theorem biF_lenT {xs : List D} : biF .len [.tup xs] = some (.int xs.length) := rfl
theorem biF_lenL {xs : List D} : biF .len [.lst xs] = some (.int xs.length) := rfl
theorem biF_tupT {xs : List D} : biF .tuple [.tup xs] = some (.tup xs) := rfl
theorem biF_tupL {xs : List D} : biF .tuple [.lst xs] = some (.tup xs) := rfl
theorem biF_listT {xs : List D} : biF .list [.tup xs] = some (.lst xs) := rfl
theorem biF_listL {xs : List D} : biF .list [.lst xs] = some (.lst xs) := rfl
theorem biF_intI {i : Int} : biF .int [.int i] = some (.int i) := rfl
theorem biF_intB {b : Bool} : biF .int [.bl b] = some (.int (if b then 1 else 0)) := rfl
theorem biF_absI {i : Int} : biF .abs [.int i] = some (.int (if i < 0 then -i else i)) := rfl
theorem natI (i j : Nat) : ((i : Int) = (j : Int)) = (i = j) := propext (by omega)
theorem ev_cmpR {G : Sig} {ρ : PEnv} {v : Nat} {ies : List E} {elt : E} {n : Nat} (g : Nat → D) (hn : n ≤ 16) (h1 : evs G ies ρ = .ok ([.int n], ρ)) (hw : ρ.set v none = ρ)
    (step : ∀ i, i < n → ev G elt (ρ.set v (some (.dat (.int (i : Int))))) = .ok (g i, ρ.set v (some (.dat (.int (i : Int)))))) : ev G (.comp [v] (false, [v]) .rng ies [] elt) ρ = .ok (.lst ((List.range n).map g), ρ) :=
  ev_cmp1 (L := List.range n) (fun i => .int (i : Int)) g h1 (rng_nat (Nat.le_of_lt (lt_lim hn))) hw (fun _ => rfl) (by rw [List.length_range]; exact lt_lim hn) fun i hi => step i (List.mem_range.mp hi)
theorem evs_one {G : Sig} {e : E} {ρ : PEnv} : evs G [e] ρ = (ev G e ρ).bind fun q => .ok ([q.1], q.2) := by rw [evs_cons]; simp [evs_nil]
theorem evo_tab {G : Sig} {e : Ar} {ρ ρ1 : PEnv} {d : List D} (h : ev G (.prim (.bi .tuple) [e]) ρ = .ok (.tup d, ρ1)) : evo G (.prim (.bi .tuple) [e]) ρ = .ok (.dat (.tup d), ρ1) := by rw [evo_prim, h]; rfl
theorem evo_sum {G : Sig} {e : Ar} {ρ ρ1 : PEnv} {d : Int} (h : ev G (.prim (.bi .sum) [e]) ρ = .ok (.int d, ρ1)) : evo G (.prim (.bi .sum) [e]) ρ = .ok (.dat (.int d), ρ1) := by rw [evo_prim, h]; rfl
theorem len_enc {n m : Nat} {f : M} : biF .len [enc n m f] = some (.int n) := by simp [enc, biF]
theorem len_row {m i : Nat} {f : M} : biF .len [row m f i] = some (.int m) := by simp [row, biF]
section
variable {k : Nat}
theorem w_unit {n : Nat} (hn : n ≤ 4) : callV (sigOf defs (k + 1)) "unit_table" [.int n] = .ok (.dat (enc n n (one n))) := by
  refine callV_run fnd_unit_table ⟨rfl, by decide⟩ ?_
  show WSs _ d_unit_table.body [some (.dat (.int n)), none, none] _
  refine (ws_cons (ws_ret (evo_tab (ev_tab (n := n) (m := n) (one n) (lt_lim (by omega)) (lt_lim (by omega)) rfl (fun _ => rfl) ?_ (fun i hi => ?_) (fun i hi j hj => ?_))) rfl))
  · simp [opnds_nilS, opnds_consS, opnd_slot, opnd_ex, ev_var, ev_con, ev_prim, ev_dsp, ev_bop, ev_not, ev_ite, ev_isi, ev_callS, evs_nil, evs_cons, evC_nil, evC_cons, evB_one, evB_more, evT_bop, evT_not, evT_val, evo_var, evo_call', evo_dsp, evo_prim, evo_con, evo_bop, evo_not, evo_ite, evo_isi, getS_0, getS_s, rdAll, rdO, Slot.frz, primF, cmpF, truD, biF_lenT, biF_lenL, biF_tupT, biF_tupL, biF_listT, biF_listL, biF_intI, biF_intB, biF_absI, len_enc, len_row, natI, binF, freshP, isOwn, eqF_int, addI, subI, argS, backA, slotsOf, isiF]
  · simp [opnds_nilS, opnds_consS, opnd_slot, opnd_ex, ev_var, ev_con, ev_prim, ev_dsp, ev_bop, ev_not, ev_ite, ev_isi, ev_callS, evs_nil, evs_cons, evC_nil, evC_cons, evB_one, evB_more, evT_bop, evT_not, evT_val, evo_var, evo_call', evo_dsp, evo_prim, evo_con, evo_bop, evo_not, evo_ite, evo_isi, getS_0, getS_s, rdAll, rdO, Slot.frz, primF, cmpF, truD, biF_lenT, biF_lenL, biF_tupT, biF_tupL, biF_listT, biF_listL, biF_intI, biF_intB, biF_absI, len_enc, len_row, natI, binF, freshP, isOwn, eqF_int, addI, subI, argS, backA, slotsOf, isiF]
  · simp [opnds_nilS, opnds_consS, opnd_slot, opnd_ex, ev_var, ev_con, ev_prim, ev_dsp, ev_bop, ev_not, ev_ite, ev_isi, ev_callS, evs_nil, evs_cons, evC_nil, evC_cons, evB_one, evB_more, evT_bop, evT_not, evT_val, evo_var, evo_call', evo_dsp, evo_prim, evo_con, evo_bop, evo_not, evo_ite, evo_isi, getS_0, getS_s, rdAll, rdO, Slot.frz, primF, cmpF, truD, biF_lenT, biF_lenL, biF_tupT, biF_tupL, biF_listT, biF_listL, biF_intI, biF_intB, biF_absI, len_enc, len_row, natI, binF, freshP, isOwn, eqF_int, addI, subI, argS, backA, slotsOf, isiF, one, hi]
theorem w_trace {n : Nat} {f : M} (hn : n ≤ 4) : callV (sigOf defs (k + 1)) "trace_of" [enc n n f] = .ok (.dat (.int (tr n f))) := by
  refine callV_run fnd_trace_of ⟨rfl, by decide⟩ ?_
  show WSs _ d_trace_of.body [some (.dat (enc n n f)), none] _
  refine (ws_cons (ws_ret (evo_sum (ev_sumC (L := List.range n) (f := fun k => f k k) (ev_cmpR (n := n) _ (by omega) ?_ rfl (fun i hi => ?_)))) rfl))
  · simp [opnds_nilS, opnds_consS, opnd_slot, opnd_ex, ev_var, ev_con, ev_prim, ev_dsp, ev_bop, ev_not, ev_ite, ev_isi, ev_callS, evs_nil, evs_cons, evC_nil, evC_cons, evB_one, evB_more, evT_bop, evT_not, evT_val, evo_var, evo_call', evo_dsp, evo_prim, evo_con, evo_bop, evo_not, evo_ite, evo_isi, getS_0, getS_s, rdAll, rdO, Slot.frz, primF, cmpF, truD, biF_lenT, biF_lenL, biF_tupT, biF_tupL, biF_listT, biF_listL, biF_intI, biF_intB, biF_absI, len_enc, len_row, natI, binF, freshP, isOwn, eqF_int, addI, subI, argS, backA, slotsOf, isiF, evs_one, enc]
  · simp [opnds_nilS, opnds_consS, opnd_slot, opnd_ex, ev_var, ev_con, ev_prim, ev_dsp, ev_bop, ev_not, ev_ite, ev_isi, ev_callS, evs_nil, evs_cons, evC_nil, evC_cons, evB_one, evB_more, evT_bop, evT_not, evT_val, evo_var, evo_call', evo_dsp, evo_prim, evo_con, evo_bop, evo_not, evo_ite, evo_isi, getS_0, getS_s, rdAll, rdO, Slot.frz, primF, cmpF, truD, biF_lenT, biF_lenL, biF_tupT, biF_tupL, biF_listT, biF_listL, biF_intI, biF_intB, biF_absI, len_enc, len_row, natI, binF, freshP, isOwn, eqF_int, addI, subI, argS, backA, slotsOf, isiF, ix_enc hi, ix_row hi]
theorem w_plus {n m : Nat} {f g : M} (hn : n ≤ 4) (hm : m ≤ 4) : callV (sigOf defs (k + 1)) "plus_table" [enc n m f, enc n m g] = .ok (.dat (enc n m (plus f g))) := by
  refine callV_run fnd_plus_table ⟨rfl, by decide⟩ ?_
  show WSs _ d_plus_table.body [some (.dat (enc n m f)), some (.dat (enc n m g)), none, none] _
  refine (ws_cons (ws_ret (evo_tab (ev_tab (n := n) (m := m) (plus f g) (lt_lim (by omega)) (lt_lim (by omega)) rfl (fun _ => rfl) ?_ (fun i hi => ?_) (fun i hi j hj => ?_))) rfl))
  · simp [opnds_nilS, opnds_consS, opnd_slot, opnd_ex, ev_var, ev_con, ev_prim, ev_dsp, ev_bop, ev_not, ev_ite, ev_isi, ev_callS, evs_nil, evs_cons, evC_nil, evC_cons, evB_one, evB_more, evT_bop, evT_not, evT_val, evo_var, evo_call', evo_dsp, evo_prim, evo_con, evo_bop, evo_not, evo_ite, evo_isi, getS_0, getS_s, rdAll, rdO, Slot.frz, primF, cmpF, truD, biF_lenT, biF_lenL, biF_tupT, biF_tupL, biF_listT, biF_listL, biF_intI, biF_intB, biF_absI, len_enc, len_row, natI, binF, freshP, isOwn, eqF_int, addI, subI, argS, backA, slotsOf, isiF, enc]
  · simp [opnds_nilS, opnds_consS, opnd_slot, opnd_ex, ev_var, ev_con, ev_prim, ev_dsp, ev_bop, ev_not, ev_ite, ev_isi, ev_callS, evs_nil, evs_cons, evC_nil, evC_cons, evB_one, evB_more, evT_bop, evT_not, evT_val, evo_var, evo_call', evo_dsp, evo_prim, evo_con, evo_bop, evo_not, evo_ite, evo_isi, getS_0, getS_s, rdAll, rdO, Slot.frz, primF, cmpF, truD, biF_lenT, biF_lenL, biF_tupT, biF_tupL, biF_listT, biF_listL, biF_intI, biF_intB, biF_absI, len_enc, len_row, natI, binF, freshP, isOwn, eqF_int, addI, subI, argS, backA, slotsOf, isiF, ix_enc hi]
  · simp [opnds_nilS, opnds_consS, opnd_slot, opnd_ex, ev_var, ev_con, ev_prim, ev_dsp, ev_bop, ev_not, ev_ite, ev_isi, ev_callS, evs_nil, evs_cons, evC_nil, evC_cons, evB_one, evB_more, evT_bop, evT_not, evT_val, evo_var, evo_call', evo_dsp, evo_prim, evo_con, evo_bop, evo_not, evo_ite, evo_isi, getS_0, getS_s, rdAll, rdO, Slot.frz, primF, cmpF, truD, biF_lenT, biF_lenL, biF_tupT, biF_tupL, biF_listT, biF_listL, biF_intI, biF_intB, biF_absI, len_enc, len_row, natI, binF, freshP, isOwn, eqF_int, addI, subI, argS, backA, slotsOf, isiF, ix_enc hi, ix_row hj, plus]
theorem w_scal {n m b c : Nat} {x : Int} {f : M} (hn : n ≤ 4) (hm : m ≤ 4) (hf : Bd b f) (hx : x.natAbs < 2 ^ c) (h : c + b ≤ 1000) (hb : 0 < b) (hc : 0 < c) : callV (sigOf defs (k + 1)) "scaled_table" [enc n m f, .int x] = .ok (.dat (enc n m (KM.scal x f))) := by
  refine callV_run fnd_scaled_table ⟨rfl, by decide⟩ ?_
  show WSs _ d_scaled_table.body [some (.dat (enc n m f)), some (.dat (.int x)), none, none] _
  refine (ws_cons (ws_ret (evo_tab (ev_rows (n := n) (m := m) (g := f) (KM.scal x f) (lt_lim (by omega)) (lt_lim (by omega)) rfl (fun _ => rfl) ?_ (fun y => ?_) (fun i hi j hj => ?_))) rfl))
  · simp [opnds_nilS, opnds_consS, opnd_slot, opnd_ex, ev_var, ev_con, ev_prim, ev_dsp, ev_bop, ev_not, ev_ite, ev_isi, ev_callS, evs_nil, evs_cons, evC_nil, evC_cons, evB_one, evB_more, evT_bop, evT_not, evT_val, evo_var, evo_call', evo_dsp, evo_prim, evo_con, evo_bop, evo_not, evo_ite, evo_isi, getS_0, getS_s, rdAll, rdO, Slot.frz, primF, cmpF, truD, biF_lenT, biF_lenL, biF_tupT, biF_tupL, biF_listT, biF_listL, biF_intI, biF_intB, biF_absI, len_enc, len_row, natI, binF, freshP, isOwn, eqF_int, addI, subI, argS, backA, slotsOf, isiF]
  · simp [opnds_nilS, opnds_consS, opnd_slot, opnd_ex, ev_var, ev_con, ev_prim, ev_dsp, ev_bop, ev_not, ev_ite, ev_isi, ev_callS, evs_nil, evs_cons, evC_nil, evC_cons, evB_one, evB_more, evT_bop, evT_not, evT_val, evo_var, evo_call', evo_dsp, evo_prim, evo_con, evo_bop, evo_not, evo_ite, evo_isi, getS_0, getS_s, rdAll, rdO, Slot.frz, primF, cmpF, truD, biF_lenT, biF_lenL, biF_tupT, biF_tupL, biF_listT, biF_listL, biF_intI, biF_intB, biF_absI, len_enc, len_row, natI, binF, freshP, isOwn, eqF_int, addI, subI, argS, backA, slotsOf, isiF]
  · simp [opnds_nilS, opnds_consS, opnd_slot, opnd_ex, ev_var, ev_con, ev_prim, ev_dsp, ev_bop, ev_not, ev_ite, ev_isi, ev_callS, evs_nil, evs_cons, evC_nil, evC_cons, evB_one, evB_more, evT_bop, evT_not, evT_val, evo_var, evo_call', evo_dsp, evo_prim, evo_con, evo_bop, evo_not, evo_ite, evo_isi, getS_0, getS_s, rdAll, rdO, Slot.frz, primF, cmpF, truD, biF_lenT, biF_lenL, biF_tupT, biF_tupL, biF_listT, biF_listL, biF_intI, biF_intB, biF_absI, len_enc, len_row, natI, binF, freshP, isOwn, eqF_int, addI, subI, argS, backA, slotsOf, isiF, mulI hx (hf i j) hc hb (by omega), KM.scal]
theorem w_flip {n : Nat} {f : M} (hn : n ≤ 4) : callV (sigOf defs (k + 1)) "flipped_table" [enc n n f] = .ok (.dat (enc n n fun i j => f j i)) := by
  refine callV_run fnd_flipped_table ⟨rfl, by decide⟩ ?_
  show WSs _ d_flipped_table.body [some (.dat (enc n n f)), none, none] _
  refine (ws_cons (ws_ret (evo_tab (ev_tab (n := n) (m := n) (fun i j => f j i) (lt_lim (by omega)) (lt_lim (by omega)) rfl (fun _ => rfl) ?_ (fun i hi => ?_) (fun i hi j hj => ?_))) rfl))
  · simp [opnds_nilS, opnds_consS, opnd_slot, opnd_ex, ev_var, ev_con, ev_prim, ev_dsp, ev_bop, ev_not, ev_ite, ev_isi, ev_callS, evs_nil, evs_cons, evC_nil, evC_cons, evB_one, evB_more, evT_bop, evT_not, evT_val, evo_var, evo_call', evo_dsp, evo_prim, evo_con, evo_bop, evo_not, evo_ite, evo_isi, getS_0, getS_s, rdAll, rdO, Slot.frz, primF, cmpF, truD, biF_lenT, biF_lenL, biF_tupT, biF_tupL, biF_listT, biF_listL, biF_intI, biF_intB, biF_absI, len_enc, len_row, natI, binF, freshP, isOwn, eqF_int, addI, subI, argS, backA, slotsOf, isiF, enc]
  · simp [opnds_nilS, opnds_consS, opnd_slot, opnd_ex, ev_var, ev_con, ev_prim, ev_dsp, ev_bop, ev_not, ev_ite, ev_isi, ev_callS, evs_nil, evs_cons, evC_nil, evC_cons, evB_one, evB_more, evT_bop, evT_not, evT_val, evo_var, evo_call', evo_dsp, evo_prim, evo_con, evo_bop, evo_not, evo_ite, evo_isi, getS_0, getS_s, rdAll, rdO, Slot.frz, primF, cmpF, truD, biF_lenT, biF_lenL, biF_tupT, biF_tupL, biF_listT, biF_listL, biF_intI, biF_intB, biF_absI, len_enc, len_row, natI, binF, freshP, isOwn, eqF_int, addI, subI, argS, backA, slotsOf, isiF, enc]
  · simp [opnds_nilS, opnds_consS, opnd_slot, opnd_ex, ev_var, ev_con, ev_prim, ev_dsp, ev_bop, ev_not, ev_ite, ev_isi, ev_callS, evs_nil, evs_cons, evC_nil, evC_cons, evB_one, evB_more, evT_bop, evT_not, evT_val, evo_var, evo_call', evo_dsp, evo_prim, evo_con, evo_bop, evo_not, evo_ite, evo_isi, getS_0, getS_s, rdAll, rdO, Slot.frz, primF, cmpF, truD, biF_lenT, biF_lenL, biF_tupT, biF_tupL, biF_listT, biF_listL, biF_intI, biF_intB, biF_absI, len_enc, len_row, natI, binF, freshP, isOwn, eqF_int, addI, subI, argS, backA, slotsOf, isiF, ix_enc hj, ix_row hi]
theorem w_prodL {n p m a b : Nat} {f g : M} (hn : n ≤ 4) (hp : p ≤ 4) (hm : m ≤ 4) (hf : Bd a f) (hg : Bd b g) (ha : 0 < a) (hb : 0 < b) (hab : a + b ≤ 1000) : callV (sigOf defs (k + 1)) "_law_product" [enc n p f, enc p m g, .int m] = .ok (.dat (enc n m (mul p f g))) := by
  refine callV_run fnd_law_product ⟨rfl, by decide⟩ ?_
  show WSs _ d_law_product.body [some (.dat (enc n p f)), some (.dat (enc p m g)), some (.dat (.int m)), none, none, none] _
  refine (ws_cons (ws_ret (evo_tab (ev_tupC (ev_cmp1 (ds := [enc n p f]) (L := List.range n) (row p f) (row m (mul p f g)) ?_ rfl rfl (fun _ => rfl) (by rw [List.length_range]; exact lt_lim (by omega)) (fun i hi => ?_)))) rfl))
  · simp [opnds_nilS, opnds_consS, opnd_slot, opnd_ex, ev_var, ev_con, ev_prim, ev_dsp, ev_bop, ev_not, ev_ite, ev_isi, ev_callS, evs_nil, evs_cons, evC_nil, evC_cons, evB_one, evB_more, evT_bop, evT_not, evT_val, evo_var, evo_call', evo_dsp, evo_prim, evo_con, evo_bop, evo_not, evo_ite, evo_isi, getS_0, getS_s, rdAll, rdO, Slot.frz, primF, cmpF, truD, biF_lenT, biF_lenL, biF_tupT, biF_tupL, biF_listT, biF_listL, biF_intI, biF_intB, biF_absI, len_enc, len_row, natI, binF, freshP, isOwn, eqF_int, addI, subI, argS, backA, slotsOf, isiF]
  have hi := List.mem_range.mp hi
  refine ev_tupC (ev_cmpR (n := m) (fun j => .int (mul p f g i j)) (by omega) ?_ rfl fun j hj => ?_)
  · simp [opnds_nilS, opnds_consS, opnd_slot, opnd_ex, ev_var, ev_con, ev_prim, ev_dsp, ev_bop, ev_not, ev_ite, ev_isi, ev_callS, evs_nil, evs_cons, evC_nil, evC_cons, evB_one, evB_more, evT_bop, evT_not, evT_val, evo_var, evo_call', evo_dsp, evo_prim, evo_con, evo_bop, evo_not, evo_ite, evo_isi, getS_0, getS_s, rdAll, rdO, Slot.frz, primF, cmpF, truD, biF_lenT, biF_lenL, biF_tupT, biF_tupL, biF_listT, biF_listL, biF_intI, biF_intB, biF_absI, len_enc, len_row, natI, binF, freshP, isOwn, eqF_int, addI, subI, argS, backA, slotsOf, isiF]
  refine ev_sumC (L := List.range p) (f := fun k => f i k * g k j) (ev_cmpR (n := p) _ (by omega) ?_ rfl (fun l hl => ?_))
  · simp [opnds_nilS, opnds_consS, opnd_slot, opnd_ex, ev_var, ev_con, ev_prim, ev_dsp, ev_bop, ev_not, ev_ite, ev_isi, ev_callS, evs_nil, evs_cons, evC_nil, evC_cons, evB_one, evB_more, evT_bop, evT_not, evT_val, evo_var, evo_call', evo_dsp, evo_prim, evo_con, evo_bop, evo_not, evo_ite, evo_isi, getS_0, getS_s, rdAll, rdO, Slot.frz, primF, cmpF, truD, biF_lenT, biF_lenL, biF_tupT, biF_tupL, biF_listT, biF_listL, biF_intI, biF_intB, biF_absI, len_enc, len_row, natI, binF, freshP, isOwn, eqF_int, addI, subI, argS, backA, slotsOf, isiF, evs_one, enc]
  simp [opnds_nilS, opnds_consS, opnd_slot, opnd_ex, ev_var, ev_con, ev_prim, ev_dsp, ev_bop, ev_not, ev_ite, ev_isi, ev_callS, evs_nil, evs_cons, evC_nil, evC_cons, evB_one, evB_more, evT_bop, evT_not, evT_val, evo_var, evo_call', evo_dsp, evo_prim, evo_con, evo_bop, evo_not, evo_ite, evo_isi, getS_0, getS_s, rdAll, rdO, Slot.frz, primF, cmpF, truD, biF_lenT, biF_lenL, biF_tupT, biF_tupL, biF_listT, biF_listL, biF_intI, biF_intB, biF_absI, len_enc, len_row, natI, binF, freshP, isOwn, eqF_int, addI, subI, argS, backA, slotsOf, isiF, ix_row hl, ix_enc hl, ix_row hj, mulI (hf i l) (hg l j) ha hb (by omega)]
theorem w_times {n p m a b : Nat} {f g : M} (hn : n ≤ 4) (hp : p ≤ 4) (hm : m ≤ 4) (hpm : p = 0 → m = 0) (hf : Bd a f) (hg : Bd b g) (ha : 0 < a) (hb : 0 < b) (hab : a + b ≤ 1000) : callV (sigOf defs (k + 1)) "times_table" [enc n p f, enc p m g] = .ok (.dat (enc n m (mul p f g))) := by
  refine callV_run fnd_times_table ⟨rfl, by decide⟩ ?_
  show WSs _ d_times_table.body [some (.dat (enc n p f)), some (.dat (enc p m g)), none, none, none, none, none] _
  refine ws_cons (ws_set (d := .int m) (ρ1 := [some (.dat (enc n p f)), some (.dat (enc p m g)), none, none, none, none, none]) ?_ ?_)
  · by_cases h : p = 0
    · subst h
      have := hpm rfl
      subst this
      simp [opnds_nilS, opnds_consS, opnd_slot, opnd_ex, ev_var, ev_con, ev_prim, ev_dsp, ev_bop, ev_not, ev_ite, ev_isi, ev_callS, evs_nil, evs_cons, evC_nil, evC_cons, evB_one, evB_more, evT_bop, evT_not, evT_val, evo_var, evo_call', evo_dsp, evo_prim, evo_con, evo_bop, evo_not, evo_ite, evo_isi, getS_0, getS_s, rdAll, rdO, Slot.frz, primF, cmpF, truD, biF_lenT, biF_lenL, biF_tupT, biF_tupL, biF_listT, biF_listL, biF_intI, biF_intB, biF_absI, len_enc, len_row, natI, binF, freshP, isOwn, eqF_int, addI, subI, argS, backA, slotsOf, isiF, enc]
    · have h0 : 0 < p := by omega
      have e := ix_enc (m := m) (f := g) h0
      simp [opnds_nilS, opnds_consS, opnd_slot, opnd_ex, ev_var, ev_con, ev_prim, ev_dsp, ev_bop, ev_not, ev_ite, ev_isi, ev_callS, evs_nil, evs_cons, evC_nil, evC_cons, evB_one, evB_more, evT_bop, evT_not, evT_val, evo_var, evo_call', evo_dsp, evo_prim, evo_con, evo_bop, evo_not, evo_ite, evo_isi, getS_0, getS_s, rdAll, rdO, Slot.frz, primF, cmpF, truD, biF_lenT, biF_lenL, biF_tupT, biF_tupL, biF_listT, biF_listL, biF_intI, biF_intB, biF_absI, len_enc, len_row, natI, binF, freshP, isOwn, eqF_int, addI, subI, argS, backA, slotsOf, isiF, len_enc, h0, show ixF (enc p m g) (.int 0) = _ from e, len_row]
  refine ws_cons (ws_seto (d := .own []) (ρ1 := [some (.dat (enc n p f)), some (.dat (enc p m g)), some (.dat (.int m)), none, none, none, none]) ?_ ?_)
  · simp [opnds_nilS, opnds_consS, opnd_slot, opnd_ex, ev_var, ev_con, ev_prim, ev_dsp, ev_bop, ev_not, ev_ite, ev_isi, ev_callS, evs_nil, evs_cons, evC_nil, evC_cons, evB_one, evB_more, evT_bop, evT_not, evT_val, evo_var, evo_call', evo_dsp, evo_prim, evo_con, evo_bop, evo_not, evo_ite, evo_isi, getS_0, getS_s, rdAll, rdO, Slot.frz, primF, cmpF, truD, biF_lenT, biF_lenL, biF_tupT, biF_tupL, biF_listT, biF_listL, biF_intI, biF_intB, biF_absI, len_enc, len_row, natI, binF, freshP, isOwn, eqF_int, addI, subI, argS, backA, slotsOf, isiF]
  refine ws_cons (ws_loop (L := List.range n) (ds := [enc n p f]) (ρ1 := [some (.dat (enc n p f)), some (.dat (enc p m g)), some (.dat (.int m)), some (.own []), none, none, none]) (row p f)
    (fun xs ρ => ∃ y t, xs = (List.range n).drop t ∧ t ≤ n ∧ ρ = [some (.dat (enc n p f)), some (.dat (enc p m g)), some (.dat (.int m)), some (.own ((List.range t).map (row m (mul p f g)))), y, none, none]) ?_ rfl rfl ⟨none, 0, rfl, Nat.zero_le _, rfl⟩ (fun x xs ρ h => ?_) (fun ρ h => ?_))
  · simp [opnds_nilS, opnds_consS, opnd_slot, opnd_ex, ev_var, ev_con, ev_prim, ev_dsp, ev_bop, ev_not, ev_ite, ev_isi, ev_callS, evs_nil, evs_cons, evC_nil, evC_cons, evB_one, evB_more, evT_bop, evT_not, evT_val, evo_var, evo_call', evo_dsp, evo_prim, evo_con, evo_bop, evo_not, evo_ite, evo_isi, getS_0, getS_s, rdAll, rdO, Slot.frz, primF, cmpF, truD, biF_lenT, biF_lenL, biF_tupT, biF_tupL, biF_listT, biF_listL, biF_intI, biF_intB, biF_absI, len_enc, len_row, natI, binF, freshP, isOwn, eqF_int, addI, subI, argS, backA, slotsOf, isiF]
  · obtain ⟨y, t, e, ht, rfl⟩ := h
    have ht' : t < n := by
      rcases Nat.lt_or_ge t n with c | c
      · exact c
      · rw [List.drop_eq_nil_of_le (by simpa using c)] at e; cases e
    rw [List.drop_eq_getElem_cons (by simpa using ht')] at e
    simp only [List.getElem_range, List.cons.injEq] at e
    obtain ⟨rfl, rfl⟩ := e
    refine ⟨_, rfl, ws_cons (ws_app rfl (ev_tupC (ev_cmpR (ρ := [some (.dat (enc n p f)), some (.dat (enc p m g)), some (.dat (.int m)), some (.own ((List.range x).map (row m (mul p f g)))), some (.dat (row p f x)), none, none]) (n := m) (fun j => .int (mul p f g x j)) (by omega) ?_ rfl fun j hj => ?_)) rfl (by simpa using lt_lim (by omega)) (ws_nil ⟨rfl, some (.dat (row p f x)), x + 1, rfl, ht', ?_⟩))⟩
    · simp [opnds_nilS, opnds_consS, opnd_slot, opnd_ex, ev_var, ev_con, ev_prim, ev_dsp, ev_bop, ev_not, ev_ite, ev_isi, ev_callS, evs_nil, evs_cons, evC_nil, evC_cons, evB_one, evB_more, evT_bop, evT_not, evT_val, evo_var, evo_call', evo_dsp, evo_prim, evo_con, evo_bop, evo_not, evo_ite, evo_isi, getS_0, getS_s, rdAll, rdO, Slot.frz, primF, cmpF, truD, biF_lenT, biF_lenL, biF_tupT, biF_tupL, biF_listT, biF_listL, biF_intI, biF_intB, biF_absI, len_enc, len_row, natI, binF, freshP, isOwn, eqF_int, addI, subI, argS, backA, slotsOf, isiF]
    · refine ev_sumC (L := List.range p) (f := fun k => f x k * g k j) (ev_cmpR (n := p) _ (by omega) ?_ rfl (fun l hl => ?_))
      · simp [opnds_nilS, opnds_consS, opnd_slot, opnd_ex, ev_var, ev_con, ev_prim, ev_dsp, ev_bop, ev_not, ev_ite, ev_isi, ev_callS, evs_nil, evs_cons, evC_nil, evC_cons, evB_one, evB_more, evT_bop, evT_not, evT_val, evo_var, evo_call', evo_dsp, evo_prim, evo_con, evo_bop, evo_not, evo_ite, evo_isi, getS_0, getS_s, rdAll, rdO, Slot.frz, primF, cmpF, truD, biF_lenT, biF_lenL, biF_tupT, biF_tupL, biF_listT, biF_listL, biF_intI, biF_intB, biF_absI, len_enc, len_row, natI, binF, freshP, isOwn, eqF_int, addI, subI, argS, backA, slotsOf, isiF, evs_one, row]
      simp [opnds_nilS, opnds_consS, opnd_slot, opnd_ex, ev_var, ev_con, ev_prim, ev_dsp, ev_bop, ev_not, ev_ite, ev_isi, ev_callS, evs_nil, evs_cons, evC_nil, evC_cons, evB_one, evB_more, evT_bop, evT_not, evT_val, evo_var, evo_call', evo_dsp, evo_prim, evo_con, evo_bop, evo_not, evo_ite, evo_isi, getS_0, getS_s, rdAll, rdO, Slot.frz, primF, cmpF, truD, biF_lenT, biF_lenL, biF_tupT, biF_tupL, biF_listT, biF_listL, biF_intI, biF_intB, biF_absI, len_enc, len_row, natI, binF, freshP, isOwn, eqF_int, addI, subI, argS, backA, slotsOf, isiF, ix_row hl, ix_enc hl, ix_row hj, mulI (hf x l) (hg l j) ha hb (by omega)]
    · rw [List.range_succ, List.map_append]; rfl
  · obtain ⟨y, t, e, ht, rfl⟩ := h
    have : t = n := by
      have := congrArg List.length e
      simp at this; omega
    subst this
    refine ws_cons (ws_ret (d := .dat (enc t m (mul p f g))) (ρ1 := [some (.dat (enc t p f)), some (.dat (enc p m g)), some (.dat (.int m)), some (.own ((List.range t).map (row m (mul p f g)))), y, none, none]) ?_ rfl)
    simp [opnds_nilS, opnds_consS, opnd_slot, opnd_ex, ev_var, ev_con, ev_prim, ev_dsp, ev_bop, ev_not, ev_ite, ev_isi, ev_callS, evs_nil, evs_cons, evC_nil, evC_cons, evB_one, evB_more, evT_bop, evT_not, evT_val, evo_var, evo_call', evo_dsp, evo_prim, evo_con, evo_bop, evo_not, evo_ite, evo_isi, getS_0, getS_s, rdAll, rdO, Slot.frz, primF, cmpF, truD, biF_lenT, biF_lenL, biF_tupT, biF_tupL, biF_listT, biF_listL, biF_intI, biF_intB, biF_absI, len_enc, len_row, natI, binF, freshP, isOwn, eqF_int, addI, subI, argS, backA, slotsOf, isiF]; rfl

end
end LW

set_option Elab.async false
set_option linter.all false
set_option maxRecDepth 100000
set_option maxHeartbeats 2000000
namespace LW
open PySem L2 Px Py KM

theorem lim0 : ¬ lim = 0 := by unfold lim; decide
theorem rng_from1 {ρ : PEnv} {n : Nat} (h : n ≤ 15) : itemsOf ρ .rng [.int 1, .int ((n : Int) + 1)] = some ((List.range n).map fun k => .int ((k : Int) + 1)) := by
  show (if okRng 1 && okRng ((n : Int) + 1) then some (rngItems 1 ((n : Int) + 1)) else none) = _
  rw [if_pos (by simp [okRng]; omega)]
  unfold rngItems
  rw [show ((n : Int) + 1 - 1).toNat = n by omega]
  congr 1
  refine List.map_congr_left fun j _ => ?_
  congr 1
  omega
theorem ediv_le (a b : Int) : (a / b).natAbs ≤ a.natAbs := Int.natAbs_ediv_le_natAbs a b
theorem bd_pw {n : Nat} {A : M} (hn : n ≤ 4) (h : Bd 2 A) : ∀ k, Bd (4 * k + 1) (pw n A k)
  | 0 => bd_one
  | k + 1 => bd_le (bd_mul hn (bd_pw hn h k) h) (by omega)
theorem bd_cc {n : Nat} {A : M} {k : Nat} (hn : n ≤ 4) (h : Bd 2 A) (h1 : Bd (9 * k + 1) (hh n A k)) : (cc n A (k + 1)).natAbs < 2 ^ (9 * k + 7) := by
  rw [cc_succ]
  have h2 : Bd (9 * k + 5) (mul n A (hh n A k)) := bd_le (bd_mul hn h h1) (by omega)
  have h3 : (tr n (mul n A (hh n A k))).natAbs < 2 ^ (9 * k + 5 + 2) := S_bd4 hn fun i _ => h2 i i
  have := ediv_le (tr n (mul n A (hh n A k))) ((k : Int) + 1)
  have e : (2 : Nat) ^ (9 * k + 5 + 2) = 2 ^ (9 * k + 7) := by rw [show 9 * k + 5 + 2 = 9 * k + 7 by omega]
  omega
theorem bd_hh {n : Nat} {A : M} (hn : n ≤ 4) (h : Bd 2 A) : ∀ k, Bd (9 * k + 1) (hh n A k)
  | 0 => bd_one
  | k + 1 => fun i j => by
    have h1 := bd_hh hn h k
    have hc := bd_cc hn h h1
    rw [hh_succ]
    have h2 : (mul n A (hh n A k) i j).natAbs < 2 ^ (9 * k + 7) := bd_le (bd_mul hn h h1) (by omega) i j
    have h3 : (cc n A (k + 1) * one n i j).natAbs < 2 ^ (9 * k + 7) := by
      unfold one
      split
      · rw [Int.mul_one]; exact hc
      · rw [Int.mul_zero]; exact Nat.two_pow_pos _
    have := add_bd h2 h3
    refine Nat.lt_of_lt_of_le this (Nat.pow_le_pow_right (by decide) (by omega))
theorem bd_hn {n k : Nat} {A : M} (hn : n ≤ 4) (h : Bd 2 A) (hk : k ≤ 4) : Bd 50 (hh n A k) := bd_le (bd_hh hn h k) (by omega)
theorem bd_cn {n k : Nat} {A : M} (hn : n ≤ 4) (h : Bd 2 A) (hk : k ≤ 4) : (cc n A k).natAbs < 2 ^ 50 := by
  cases k with
  | zero => exact (by decide : (1 : Int).natAbs < 2 ^ 50)
  | succ k => exact Nat.lt_of_lt_of_le (bd_cc hn h (bd_hh hn h k)) (Nat.pow_le_pow_right (by decide) (by omega))
theorem bd_pn {n k : Nat} {A : M} (hn : n ≤ 4) (h : Bd 2 A) (hk : k ≤ 14) : Bd 60 (pw n A k) := bd_le (bd_pw hn h k) (by omega)
theorem and1 : ∀ m : Nat, m ≤ 7 → Builtin.bitAnd (m : Int) 1 = ((m % 2 : Nat) : Int) := by decide
section
variable {k : Nat}
theorem w_power {n e : Nat} {A : M} (hn : n ≤ 4) (he : e ≤ 7) (hS : Sup n A) (hB : Bd 2 A) : callV (sigOf defs (k + 2)) "power_table" [enc n n A, .int e] = .ok (.dat (enc n n (pw n A e))) := by
  refine callV_run fnd_power_table ⟨rfl, by decide⟩ ?_
  show WSs _ d_power_table.body [some (.dat (enc n n A)), some (.dat (.int e)), none, none] _
  refine ws_cons (ws_par (s := .dat (enc n n (one n))) (t := .dat (enc n n A)) (ρ1 := [some (.dat (enc n n A)), some (.dat (.int e)), none, none]) (ρ2 := [some (.dat (enc n n A)), some (.dat (.int e)), none, none]) (evc_f (ev_call1 (d := .int n) ?_ (w_unit hn))) (evc_f ?_) ?_)
  · simp [opnds_nilS, opnds_consS, opnd_slot, opnd_ex, ev_var, ev_con, ev_prim, ev_dsp, ev_bop, ev_not, ev_ite, ev_isi, ev_callS, evs_nil, evs_cons, evC_nil, evC_cons, evB_one, evB_more, evT_bop, evT_not, evT_val, evo_var, evo_call', evo_dsp, evo_prim, evo_con, evo_bop, evo_not, evo_ite, evo_isi, getS_0, getS_s, rdAll, rdO, Slot.frz, primF, cmpF, truD, biF_lenT, biF_lenL, biF_tupT, biF_tupL, biF_listT, biF_listL, biF_intI, biF_intB, biF_absI, len_enc, len_row, natI, binF, freshP, isOwn, eqF_int, addI, subI, argS, backA, slotsOf, isiF]
  · simp [opnds_nilS, opnds_consS, opnd_slot, opnd_ex, ev_var, ev_con, ev_prim, ev_dsp, ev_bop, ev_not, ev_ite, ev_isi, ev_callS, evs_nil, evs_cons, evC_nil, evC_cons, evB_one, evB_more, evT_bop, evT_not, evT_val, evo_var, evo_call', evo_dsp, evo_prim, evo_con, evo_bop, evo_not, evo_ite, evo_isi, getS_0, getS_s, rdAll, rdO, Slot.frz, primF, cmpF, truD, biF_lenT, biF_lenL, biF_tupT, biF_tupL, biF_listT, biF_listL, biF_intI, biF_intB, biF_absI, len_enc, len_row, natI, binF, freshP, isOwn, eqF_int, addI, subI, argS, backA, slotsOf, isiF]
  refine ws_cons (ws_while (fun m ρ => ∃ a q, a + q * m = e ∧ q ≤ 14 ∧ 1 ≤ q ∧ ρ = [some (.dat (enc n n A)), some (.dat (.int (m : Int))), some (.dat (enc n n (pw n A a))), some (.dat (enc n n (pw n A q)))]) e (by show e < 1000000; omega) ⟨0, 1, by omega, by omega, by omega, by rw [pw_one hS]; rfl⟩ fun m ρ h => ?_)
  obtain ⟨a, q, ea, hq, hq1, rfl⟩ := h
  refine ⟨decide (0 < (m : Int)), [some (.dat (enc n n A)), some (.dat (.int (m : Int))), some (.dat (enc n n (pw n A a))), some (.dat (enc n n (pw n A q)))], ?_, fun ht => ?_, fun ht => ?_⟩
  · simp [opnds_nilS, opnds_consS, opnd_slot, opnd_ex, ev_var, ev_con, ev_prim, ev_dsp, ev_bop, ev_not, ev_ite, ev_isi, ev_callS, evs_nil, evs_cons, evC_nil, evC_cons, evB_one, evB_more, evT_bop, evT_not, evT_val, evo_var, evo_call', evo_dsp, evo_prim, evo_con, evo_bop, evo_not, evo_ite, evo_isi, getS_0, getS_s, rdAll, rdO, Slot.frz, primF, cmpF, truD, biF_lenT, biF_lenL, biF_tupT, biF_tupL, biF_listT, biF_listL, biF_intI, biF_intB, biF_absI, len_enc, len_row, natI, binF, freshP, isOwn, eqF_int, addI, subI, argS, backA, slotsOf, isiF]
  · have : m = 0 := by simpa using ht
    subst this
    rw [Nat.mul_zero, Nat.add_zero] at ea
    subst ea
    exact ws_cons (ws_ret (d := .dat (enc n n (pw n A a))) (ρ1 := [some (.dat (enc n n A)), some (.dat (.int ((0 : Nat) : Int))), some (.dat (enc n n (pw n A a))), some (.dat (enc n n (pw n A q)))]) (by simp [opnds_nilS, opnds_consS, opnd_slot, opnd_ex, ev_var, ev_con, ev_prim, ev_dsp, ev_bop, ev_not, ev_ite, ev_isi, ev_callS, evs_nil, evs_cons, evC_nil, evC_cons, evB_one, evB_more, evT_bop, evT_not, evT_val, evo_var, evo_call', evo_dsp, evo_prim, evo_con, evo_bop, evo_not, evo_ite, evo_isi, getS_0, getS_s, rdAll, rdO, Slot.frz, primF, cmpF, truD, biF_lenT, biF_lenL, biF_tupT, biF_tupL, biF_listT, biF_listL, biF_intI, biF_intB, biF_absI, len_enc, len_row, natI, binF, freshP, isOwn, eqF_int, addI, subI, argS, backA, slotsOf, isiF]) rfl)
  · have hm : 0 < m := by simpa using ht
    have hqm : q * 1 ≤ q * m := Nat.mul_le_mul_left q hm
    have hm7 : 1 * m ≤ q * m := Nat.mul_le_mul_right m hq1
    have ha7 : a ≤ 7 := by omega
    have hq7 : q ≤ 7 := by omega
    have hm7 : m ≤ 7 := by omega
    have T1 := w_times (k := k) hn hn hn id (bd_pn hn hB (k := a) (by omega)) (bd_pn hn hB (k := q) (by omega)) (by decide) (by decide) (by decide)
    rw [pw_add hS] at T1
    have T2 := w_times (k := k) hn hn hn id (bd_pn hn hB (k := q) (by omega)) (bd_pn hn hB (k := q) (by omega)) (by decide) (by decide) (by decide)
    rw [pw_add hS] at T2
    refine ⟨hm, ?_⟩
    have fin : ∀ a', a' + (q + q) * (m / 2) = e → WSs (sigOf defs (k + 1)) [.set false 3 (.call "times_table" [.ex (.var 3), .ex (.var 3)]), .aug 1 .RShift (.con (.int 1))] [some (.dat (enc n n A)), some (.dat (.int (m : Int))), some (.dat (enc n n (pw n A a'))), some (.dat (enc n n (pw n A q)))] fun fl ρ' => fl = .nx ∧ ∃ m' < m, ∃ a q, a + q * m' = e ∧ q ≤ 14 ∧ 1 ≤ q ∧ ρ' = [some (.dat (enc n n A)), some (.dat (.int (m' : Int))), some (.dat (enc n n (pw n A a))), some (.dat (enc n n (pw n A q)))] := by
      intro a' ha'
      refine ws_cons (ws_set (ev_call2 (ρ1 := [some (.dat (enc n n A)), some (.dat (.int (m : Int))), some (.dat (enc n n (pw n A a'))), some (.dat (enc n n (pw n A q)))]) (ρ2 := [some (.dat (enc n n A)), some (.dat (.int (m : Int))), some (.dat (enc n n (pw n A a'))), some (.dat (enc n n (pw n A q)))]) (d := enc n n (pw n A q)) (d' := enc n n (pw n A q)) ?_ ?_ T2) ?_)
      · simp [opnds_nilS, opnds_consS, opnd_slot, opnd_ex, ev_var, ev_con, ev_prim, ev_dsp, ev_bop, ev_not, ev_ite, ev_isi, ev_callS, evs_nil, evs_cons, evC_nil, evC_cons, evB_one, evB_more, evT_bop, evT_not, evT_val, evo_var, evo_call', evo_dsp, evo_prim, evo_con, evo_bop, evo_not, evo_ite, evo_isi, getS_0, getS_s, rdAll, rdO, Slot.frz, primF, cmpF, truD, biF_lenT, biF_lenL, biF_tupT, biF_tupL, biF_listT, biF_listL, biF_intI, biF_intB, biF_absI, len_enc, len_row, natI, binF, freshP, isOwn, eqF_int, addI, subI, argS, backA, slotsOf, isiF]
      · simp [opnds_nilS, opnds_consS, opnd_slot, opnd_ex, ev_var, ev_con, ev_prim, ev_dsp, ev_bop, ev_not, ev_ite, ev_isi, ev_callS, evs_nil, evs_cons, evC_nil, evC_cons, evB_one, evB_more, evT_bop, evT_not, evT_val, evo_var, evo_call', evo_dsp, evo_prim, evo_con, evo_bop, evo_not, evo_ite, evo_isi, getS_0, getS_s, rdAll, rdO, Slot.frz, primF, cmpF, truD, biF_lenT, biF_lenL, biF_tupT, biF_tupL, biF_listT, biF_listL, biF_intI, biF_intB, biF_absI, len_enc, len_row, natI, binF, freshP, isOwn, eqF_int, addI, subI, argS, backA, slotsOf, isiF]
      refine ws_cons (ws_aug (ρ1 := [some (.dat (enc n n A)), some (.dat (.int (m : Int))), some (.dat (enc n n (pw n A a'))), some (.dat (enc n n (pw n A (q + q))))]) (c := .int 1) (z := .int ((m / 2 : Nat) : Int)) rfl ?_ ?_ (ws_nil ⟨rfl, m / 2, by omega, a', q + q, ha', by omega, by omega, rfl⟩))
      · simp [opnds_nilS, opnds_consS, opnd_slot, opnd_ex, ev_var, ev_con, ev_prim, ev_dsp, ev_bop, ev_not, ev_ite, ev_isi, ev_callS, evs_nil, evs_cons, evC_nil, evC_cons, evB_one, evB_more, evT_bop, evT_not, evT_val, evo_var, evo_call', evo_dsp, evo_prim, evo_con, evo_bop, evo_not, evo_ite, evo_isi, getS_0, getS_s, rdAll, rdO, Slot.frz, primF, cmpF, truD, biF_lenT, biF_lenL, biF_tupT, biF_tupL, biF_listT, biF_listL, biF_intI, biF_intB, biF_absI, len_enc, len_row, natI, binF, freshP, isOwn, eqF_int, addI, subI, argS, backA, slotsOf, isiF]
      · show some (D.int ((m : Int) / 2 ^ 1)) = _
        rw [Int.natCast_ediv]; rfl
    refine ws_cons (ws_ite (t := decide (m % 2 = 1)) (ρ1 := [some (.dat (enc n n A)), some (.dat (.int (m : Int))), some (.dat (enc n n (pw n A a))), some (.dat (enc n n (pw n A q)))]) ?_ (fun hb => ?_) (fun hb => ?_))
    · have b1 : binI .BitAnd (m : Int) 1 = some ((m % 2 : Nat) : Int) := by
        show some (Builtin.bitAnd (m : Int) 1) = _
        rw [and1 m hm7]
      by_cases c : m % 2 = 1
      · rw [c] at b1
        simp [opnds_nilS, opnds_consS, opnd_slot, opnd_ex, ev_var, ev_con, ev_prim, ev_dsp, ev_bop, ev_not, ev_ite, ev_isi, ev_callS, evs_nil, evs_cons, evC_nil, evC_cons, evB_one, evB_more, evT_bop, evT_not, evT_val, evo_var, evo_call', evo_dsp, evo_prim, evo_con, evo_bop, evo_not, evo_ite, evo_isi, getS_0, getS_s, rdAll, rdO, Slot.frz, primF, cmpF, truD, biF_lenT, biF_lenL, biF_tupT, biF_tupL, biF_listT, biF_listL, biF_intI, biF_intB, biF_absI, len_enc, len_row, natI, binF, freshP, isOwn, eqF_int, addI, subI, argS, backA, slotsOf, isiF, b1, c]
      · have : m % 2 = 0 := by omega
        rw [this] at b1
        simp [opnds_nilS, opnds_consS, opnd_slot, opnd_ex, ev_var, ev_con, ev_prim, ev_dsp, ev_bop, ev_not, ev_ite, ev_isi, ev_callS, evs_nil, evs_cons, evC_nil, evC_cons, evB_one, evB_more, evT_bop, evT_not, evT_val, evo_var, evo_call', evo_dsp, evo_prim, evo_con, evo_bop, evo_not, evo_ite, evo_isi, getS_0, getS_s, rdAll, rdO, Slot.frz, primF, cmpF, truD, biF_lenT, biF_lenL, biF_tupT, biF_tupL, biF_listT, biF_listL, biF_intI, biF_intB, biF_absI, len_enc, len_row, natI, binF, freshP, isOwn, eqF_int, addI, subI, argS, backA, slotsOf, isiF, b1, this]
    · have hb : m % 2 = 1 := of_decide_eq_true hb
      refine ws_cons (ws_set (ev_call2 (ρ1 := [some (.dat (enc n n A)), some (.dat (.int (m : Int))), some (.dat (enc n n (pw n A a))), some (.dat (enc n n (pw n A q)))]) (ρ2 := [some (.dat (enc n n A)), some (.dat (.int (m : Int))), some (.dat (enc n n (pw n A a))), some (.dat (enc n n (pw n A q)))]) (d := enc n n (pw n A a)) (d' := enc n n (pw n A q)) ?_ ?_ T1) ?_)
      · simp [opnds_nilS, opnds_consS, opnd_slot, opnd_ex, ev_var, ev_con, ev_prim, ev_dsp, ev_bop, ev_not, ev_ite, ev_isi, ev_callS, evs_nil, evs_cons, evC_nil, evC_cons, evB_one, evB_more, evT_bop, evT_not, evT_val, evo_var, evo_call', evo_dsp, evo_prim, evo_con, evo_bop, evo_not, evo_ite, evo_isi, getS_0, getS_s, rdAll, rdO, Slot.frz, primF, cmpF, truD, biF_lenT, biF_lenL, biF_tupT, biF_tupL, biF_listT, biF_listL, biF_intI, biF_intB, biF_absI, len_enc, len_row, natI, binF, freshP, isOwn, eqF_int, addI, subI, argS, backA, slotsOf, isiF]
      · simp [opnds_nilS, opnds_consS, opnd_slot, opnd_ex, ev_var, ev_con, ev_prim, ev_dsp, ev_bop, ev_not, ev_ite, ev_isi, ev_callS, evs_nil, evs_cons, evC_nil, evC_cons, evB_one, evB_more, evT_bop, evT_not, evT_val, evo_var, evo_call', evo_dsp, evo_prim, evo_con, evo_bop, evo_not, evo_ite, evo_isi, getS_0, getS_s, rdAll, rdO, Slot.frz, primF, cmpF, truD, biF_lenT, biF_lenL, biF_tupT, biF_tupL, biF_listT, biF_listL, biF_intI, biF_intB, biF_absI, len_enc, len_row, natI, binF, freshP, isOwn, eqF_int, addI, subI, argS, backA, slotsOf, isiF]
      refine (fun hq' : a + q + (q + q) * (m / 2) = e => ?_) ?_
      · obtain ⟨fl, ρ', f1, rfl, f2⟩ := fin (a + q) hq'
        exact ws_nil ⟨.nx, ρ', f1, f2⟩
      obtain ⟨h, rfl⟩ : ∃ h, m = 2 * h + 1 := ⟨m / 2, by omega⟩
      rw [show (2 * h + 1) / 2 = h by omega]
      rw [Nat.mul_add, Nat.mul_one, ← Nat.mul_assoc, Nat.mul_comm q 2] at ea
      rw [show q + q = 2 * q by omega]; omega
    · have hb : m % 2 = 0 := by
        have := of_decide_eq_false hb
        omega
      refine (fun hq' : a + (q + q) * (m / 2) = e => ?_) ?_
      · obtain ⟨fl, ρ', f1, rfl, f2⟩ := fin a hq'
        exact ws_nil ⟨.nx, ρ', f1, f2⟩
      obtain ⟨h, rfl⟩ : ∃ h, m = 2 * h := ⟨m / 2, by omega⟩
      rw [show (2 * h) / 2 = h by omega]
      rw [← Nat.mul_assoc, Nat.mul_comm q 2] at ea
      rw [show q + q = 2 * q by omega]; omega
theorem hh_plus (n : Nat) (A : M) (x : Nat) : plus (mul n A (hh n A x)) (KM.scal (cc n A (x + 1)) (one n)) = hh n A (x + 1) := rfl
theorem hh_zero (n : Nat) (A : M) : one n = hh n A 0 := rfl
theorem cc_zero (n : Nat) (A : M) : [D.int 1] = (List.range (0 + 1)).map fun k => D.int (cc n A k) := rfl
theorem ev_sub_fd {G : Sig} {ρ : PEnv} {e : E} {i : Nat} {t j : Int} (et : ev G e ρ = .ok (.int t, ρ)) (hj : getS ρ i = some (.dat (.int j))) (h0 : 0 < j) (h1 : j < 1073741824) :
    ev G (.prim (.bin .Sub) [.ex (.con (.int 0)), .ex (.prim (.bin .FloorDiv) [.ex e, .slot i])]) ρ = .ok (.int (0 - t / j), ρ) := by
  have h2 := fdI (i := t) h0 h1
  have e1 : ev G (.prim (.bin .FloorDiv) [.ex e, .slot i]) ρ = .ok (.int (t / j), ρ) := by
    rw [ev_prim, opnds_consS, opnd_ex, et, Out.bind_okS, Out.bind_okS, opnds_consS, opnd_slot, hj]
    simp only [Out.bind_okS, opnds_nilS, rdAll, rdO, hj, Slot.frz, Out.of_someS, primF, binF, h2, Option.map_some]
  rw [ev_prim, opnds_consS, opnd_ex, ev_con, Out.bind_okS, Out.bind_okS, opnds_consS, opnd_ex, e1]
  simp only [Out.bind_okS, opnds_nilS, rdAll, rdO, Slot.frz, Out.of_someS, primF, binF, subI, Option.map_some]
theorem w_char {n : Nat} {A : M} (hn : n ≤ 4) (hB : Bd 2 A) : callV (sigOf defs (k + 2)) "characteristic" [enc n n A] = .ok (.dat (.tup ((List.range (n + 1)).map fun k => .int (cc n A k)))) := by
  refine callV_run fnd_characteristic ⟨rfl, by decide⟩ ?_
  show WSs _ d_characteristic.body [some (.dat (enc n n A)), none, none, none, none, none] _
  refine ws_cons (ws_set (d := .int n) (ρ1 := [some (.dat (enc n n A)), none, none, none, none, none]) ?_ ?_)
  · simp [opnds_nilS, opnds_consS, opnd_slot, opnd_ex, ev_var, ev_con, ev_prim, ev_dsp, ev_bop, ev_not, ev_ite, ev_isi, ev_callS, evs_nil, evs_cons, evC_nil, evC_cons, evB_one, evB_more, evT_bop, evT_not, evT_val, evo_var, evo_call', evo_dsp, evo_prim, evo_con, evo_bop, evo_not, evo_ite, evo_isi, getS_0, getS_s, rdAll, rdO, Slot.frz, primF, cmpF, truD, biF_lenT, biF_lenL, biF_tupT, biF_tupL, biF_listT, biF_listL, biF_intI, biF_intB, biF_absI, len_enc, len_row, natI, binF, freshP, isOwn, eqF_int, addI, subI, argS, backA, slotsOf, isiF]
  refine ws_cons (ws_par (s := .own [.int 1]) (t := .dat (enc n n (one n))) (ρ1 := [some (.dat (enc n n A)), some (.dat (.int n)), none, none, none, none]) (ρ2 := [some (.dat (enc n n A)), some (.dat (.int n)), none, none, none, none]) (evc_t ?_) (evc_f (ev_call1 (d := .int n) ?_ (w_unit hn))) ?_)
  · simp [opnds_nilS, opnds_consS, opnd_slot, opnd_ex, ev_var, ev_con, ev_prim, ev_dsp, ev_bop, ev_not, ev_ite, ev_isi, ev_callS, evs_nil, evs_cons, evC_nil, evC_cons, evB_one, evB_more, evT_bop, evT_not, evT_val, evo_var, evo_call', evo_dsp, evo_prim, evo_con, evo_bop, evo_not, evo_ite, evo_isi, getS_0, getS_s, rdAll, rdO, Slot.frz, primF, cmpF, truD, biF_lenT, biF_lenL, biF_tupT, biF_tupL, biF_listT, biF_listL, biF_intI, biF_intB, biF_absI, len_enc, len_row, natI, binF, freshP, isOwn, eqF_int, addI, subI, argS, backA, slotsOf, isiF]; exact lim0
  · simp [opnds_nilS, opnds_consS, opnd_slot, opnd_ex, ev_var, ev_con, ev_prim, ev_dsp, ev_bop, ev_not, ev_ite, ev_isi, ev_callS, evs_nil, evs_cons, evC_nil, evC_cons, evB_one, evB_more, evT_bop, evT_not, evT_val, evo_var, evo_call', evo_dsp, evo_prim, evo_con, evo_bop, evo_not, evo_ite, evo_isi, getS_0, getS_s, rdAll, rdO, Slot.frz, primF, cmpF, truD, biF_lenT, biF_lenL, biF_tupT, biF_tupL, biF_listT, biF_listL, biF_intI, biF_intB, biF_absI, len_enc, len_row, natI, binF, freshP, isOwn, eqF_int, addI, subI, argS, backA, slotsOf, isiF]
  refine ws_cons (ws_loop (L := List.range n) (ds := [.int 1, .int ((n : Int) + 1)]) (ρ1 := [some (.dat (enc n n A)), some (.dat (.int n)), none, some (.own [.int 1]), some (.dat (enc n n (one n))), none]) (fun j => .int ((j : Int) + 1))
    (fun xs ρ => ∃ y z t, xs = (List.range n).drop t ∧ t ≤ n ∧ ρ = [some (.dat (enc n n A)), some (.dat (.int n)), y, some (.own ((List.range (t + 1)).map fun k => .int (cc n A k))), some (.dat (enc n n (hh n A t))), z]) ?_ (rng_from1 (n := n) (by omega)) rfl ⟨none, none, 0, rfl, Nat.zero_le _, by rw [← hh_zero, ← cc_zero]⟩ (fun x xs ρ h => ?_) (fun ρ h => ?_))
  · simp [opnds_nilS, opnds_consS, opnd_slot, opnd_ex, ev_var, ev_con, ev_prim, ev_dsp, ev_bop, ev_not, ev_ite, ev_isi, ev_callS, evs_nil, evs_cons, evC_nil, evC_cons, evB_one, evB_more, evT_bop, evT_not, evT_val, evo_var, evo_call', evo_dsp, evo_prim, evo_con, evo_bop, evo_not, evo_ite, evo_isi, getS_0, getS_s, rdAll, rdO, Slot.frz, primF, cmpF, truD, biF_lenT, biF_lenL, biF_tupT, biF_tupL, biF_listT, biF_listL, biF_intI, biF_intB, biF_absI, len_enc, len_row, natI, binF, freshP, isOwn, eqF_int, addI, subI, argS, backA, slotsOf, isiF]
  · obtain ⟨y, z, t, e, ht, rfl⟩ := h
    have ht' : t < n := by
      rcases Nat.lt_or_ge t n with c | c
      · exact c
      · rw [List.drop_eq_nil_of_le (by simpa using c)] at e; cases e
    rw [List.drop_eq_getElem_cons (by simpa using ht')] at e
    simp only [List.getElem_range, List.cons.injEq] at e
    obtain ⟨rfl, rfl⟩ := e
    have hb : Bd 50 (hh n A x) := bd_hn hn hB (by omega)
    refine ⟨_, rfl, ?_⟩
    refine ws_cons (ws_set (ev_call2 (ρ1 := [some (.dat (enc n n A)), some (.dat (.int n)), some (.dat (.int ((x : Int) + 1))), some (.own ((List.range (x + 1)).map fun k => .int (cc n A k))), some (.dat (enc n n (hh n A x))), z]) (ρ2 := [some (.dat (enc n n A)), some (.dat (.int n)), some (.dat (.int ((x : Int) + 1))), some (.own ((List.range (x + 1)).map fun k => .int (cc n A k))), some (.dat (enc n n (hh n A x))), z]) (d := enc n n A) (d' := enc n n (hh n A x)) ?_ ?_ (w_times hn hn hn id hB hb (by decide) (by decide) (by decide))) ?_)
    · simp [opnds_nilS, opnds_consS, opnd_slot, opnd_ex, ev_var, ev_con, ev_prim, ev_dsp, ev_bop, ev_not, ev_ite, ev_isi, ev_callS, evs_nil, evs_cons, evC_nil, evC_cons, evB_one, evB_more, evT_bop, evT_not, evT_val, evo_var, evo_call', evo_dsp, evo_prim, evo_con, evo_bop, evo_not, evo_ite, evo_isi, getS_0, getS_s, rdAll, rdO, Slot.frz, primF, cmpF, truD, biF_lenT, biF_lenL, biF_tupT, biF_tupL, biF_listT, biF_listL, biF_intI, biF_intB, biF_absI, len_enc, len_row, natI, binF, freshP, isOwn, eqF_int, addI, subI, argS, backA, slotsOf, isiF]
    · simp [opnds_nilS, opnds_consS, opnd_slot, opnd_ex, ev_var, ev_con, ev_prim, ev_dsp, ev_bop, ev_not, ev_ite, ev_isi, ev_callS, evs_nil, evs_cons, evC_nil, evC_cons, evB_one, evB_more, evT_bop, evT_not, evT_val, evo_var, evo_call', evo_dsp, evo_prim, evo_con, evo_bop, evo_not, evo_ite, evo_isi, getS_0, getS_s, rdAll, rdO, Slot.frz, primF, cmpF, truD, biF_lenT, biF_lenL, biF_tupT, biF_tupL, biF_listT, biF_listL, biF_intI, biF_intB, biF_absI, len_enc, len_row, natI, binF, freshP, isOwn, eqF_int, addI, subI, argS, backA, slotsOf, isiF]
    have et : ev (sigOf defs (k + 1)) (.call "trace_of" [.ex (.var 4)]) [some (.dat (enc n n A)), some (.dat (.int n)), some (.dat (.int ((x : Int) + 1))), some (.own ((List.range (x + 1)).map fun k => .int (cc n A k))), some (.dat (enc n n (mul n A (hh n A x)))), z] = .ok (.int (tr n (mul n A (hh n A x))), [some (.dat (enc n n A)), some (.dat (.int n)), some (.dat (.int ((x : Int) + 1))), some (.own ((List.range (x + 1)).map fun k => .int (cc n A k))), some (.dat (enc n n (mul n A (hh n A x)))), z]) := ev_call1 (by simp [opnds_nilS, opnds_consS, opnd_slot, opnd_ex, ev_var, ev_con, ev_prim, ev_dsp, ev_bop, ev_not, ev_ite, ev_isi, ev_callS, evs_nil, evs_cons, evC_nil, evC_cons, evB_one, evB_more, evT_bop, evT_not, evT_val, evo_var, evo_call', evo_dsp, evo_prim, evo_con, evo_bop, evo_not, evo_ite, evo_isi, getS_0, getS_s, rdAll, rdO, Slot.frz, primF, cmpF, truD, biF_lenT, biF_lenL, biF_tupT, biF_tupL, biF_listT, biF_listL, biF_intI, biF_intB, biF_absI, len_enc, len_row, natI, binF, freshP, isOwn, eqF_int, addI, subI, argS, backA, slotsOf, isiF]) (w_trace hn)
    refine ws_cons (ws_set (d := .int (cc n A (x + 1))) (ρ1 := [some (.dat (enc n n A)), some (.dat (.int n)), some (.dat (.int ((x : Int) + 1))), some (.own ((List.range (x + 1)).map fun k => .int (cc n A k))), some (.dat (enc n n (mul n A (hh n A x)))), z]) ?_ ?_)
    · rw [cc_succ]
      exact ev_sub_fd et rfl (by omega) (by omega)
    refine ws_cons (ws_app rfl (d := .int (cc n A (x + 1))) (ρ1 := [some (.dat (enc n n A)), some (.dat (.int n)), some (.dat (.int ((x : Int) + 1))), some (.own ((List.range (x + 1)).map fun k => .int (cc n A k))), some (.dat (enc n n (mul n A (hh n A x)))), some (.dat (.int (cc n A (x + 1))))]) ?_ rfl (by rw [List.length_map, List.length_range]; exact lt_lim (by omega)) ?_)
    · simp [opnds_nilS, opnds_consS, opnd_slot, opnd_ex, ev_var, ev_con, ev_prim, ev_dsp, ev_bop, ev_not, ev_ite, ev_isi, ev_callS, evs_nil, evs_cons, evC_nil, evC_cons, evB_one, evB_more, evT_bop, evT_not, evT_val, evo_var, evo_call', evo_dsp, evo_prim, evo_con, evo_bop, evo_not, evo_ite, evo_isi, getS_0, getS_s, rdAll, rdO, Slot.frz, primF, cmpF, truD, biF_lenT, biF_lenL, biF_tupT, biF_tupL, biF_listT, biF_listL, biF_intI, biF_intB, biF_absI, len_enc, len_row, natI, binF, freshP, isOwn, eqF_int, addI, subI, argS, backA, slotsOf, isiF]
    have hc : (cc n A (x + 1)).natAbs < 2 ^ 50 := bd_cn hn hB (by omega)
    have eu : ev (sigOf defs (k + 1)) (.call "unit_table" [.ex (.var 1)]) [some (.dat (enc n n A)), some (.dat (.int n)), some (.dat (.int ((x : Int) + 1))), some (.own ((List.range (x + 1)).map (fun k => D.int (cc n A k)) ++ [.int (cc n A (x + 1))])), some (.dat (enc n n (mul n A (hh n A x)))), some (.dat (.int (cc n A (x + 1))))] = .ok (enc n n (one n), [some (.dat (enc n n A)), some (.dat (.int n)), some (.dat (.int ((x : Int) + 1))), some (.own ((List.range (x + 1)).map (fun k => D.int (cc n A k)) ++ [.int (cc n A (x + 1))])), some (.dat (enc n n (mul n A (hh n A x)))), some (.dat (.int (cc n A (x + 1))))]) := ev_call1 (d := .int n) (by simp [opnds_nilS, opnds_consS, opnd_slot, opnd_ex, ev_var, ev_con, ev_prim, ev_dsp, ev_bop, ev_not, ev_ite, ev_isi, ev_callS, evs_nil, evs_cons, evC_nil, evC_cons, evB_one, evB_more, evT_bop, evT_not, evT_val, evo_var, evo_call', evo_dsp, evo_prim, evo_con, evo_bop, evo_not, evo_ite, evo_isi, getS_0, getS_s, rdAll, rdO, Slot.frz, primF, cmpF, truD, biF_lenT, biF_lenL, biF_tupT, biF_tupL, biF_listT, biF_listL, biF_intI, biF_intB, biF_absI, len_enc, len_row, natI, binF, freshP, isOwn, eqF_int, addI, subI, argS, backA, slotsOf, isiF]) (w_unit hn)
    have e5 : ev (sigOf defs (k + 1)) (.var 5) [some (.dat (enc n n A)), some (.dat (.int n)), some (.dat (.int ((x : Int) + 1))), some (.own ((List.range (x + 1)).map (fun k => D.int (cc n A k)) ++ [.int (cc n A (x + 1))])), some (.dat (enc n n (mul n A (hh n A x)))), some (.dat (.int (cc n A (x + 1))))] = .ok (.int (cc n A (x + 1)), [some (.dat (enc n n A)), some (.dat (.int n)), some (.dat (.int ((x : Int) + 1))), some (.own ((List.range (x + 1)).map (fun k => D.int (cc n A k)) ++ [.int (cc n A (x + 1))])), some (.dat (enc n n (mul n A (hh n A x)))), some (.dat (.int (cc n A (x + 1))))]) := by simp [opnds_nilS, opnds_consS, opnd_slot, opnd_ex, ev_var, ev_con, ev_prim, ev_dsp, ev_bop, ev_not, ev_ite, ev_isi, ev_callS, evs_nil, evs_cons, evC_nil, evC_cons, evB_one, evB_more, evT_bop, evT_not, evT_val, evo_var, evo_call', evo_dsp, evo_prim, evo_con, evo_bop, evo_not, evo_ite, evo_isi, getS_0, getS_s, rdAll, rdO, Slot.frz, primF, cmpF, truD, biF_lenT, biF_lenL, biF_tupT, biF_tupL, biF_listT, biF_listL, biF_intI, biF_intB, biF_absI, len_enc, len_row, natI, binF, freshP, isOwn, eqF_int, addI, subI, argS, backA, slotsOf, isiF]
    have wsc := w_scal (k := k) hn hn (bd_one (n := n)) hc (by decide) (by decide) (by decide)
    have es := ev_call2 eu e5 wsc
    have wp := w_plus (k := k) (f := mul n A (hh n A x)) (g := KM.scal (cc n A (x + 1)) (one n)) hn hn
    rw [hh_plus] at wp
    have e4 : ev (sigOf defs (k + 1)) (.var 4) [some (.dat (enc n n A)), some (.dat (.int n)), some (.dat (.int ((x : Int) + 1))), some (.own ((List.range (x + 1)).map (fun k => D.int (cc n A k)) ++ [.int (cc n A (x + 1))])), some (.dat (enc n n (mul n A (hh n A x)))), some (.dat (.int (cc n A (x + 1))))] = .ok (enc n n (mul n A (hh n A x)), [some (.dat (enc n n A)), some (.dat (.int n)), some (.dat (.int ((x : Int) + 1))), some (.own ((List.range (x + 1)).map (fun k => D.int (cc n A k)) ++ [.int (cc n A (x + 1))])), some (.dat (enc n n (mul n A (hh n A x)))), some (.dat (.int (cc n A (x + 1))))]) := by simp [opnds_nilS, opnds_consS, opnd_slot, opnd_ex, ev_var, ev_con, ev_prim, ev_dsp, ev_bop, ev_not, ev_ite, ev_isi, ev_callS, evs_nil, evs_cons, evC_nil, evC_cons, evB_one, evB_more, evT_bop, evT_not, evT_val, evo_var, evo_call', evo_dsp, evo_prim, evo_con, evo_bop, evo_not, evo_ite, evo_isi, getS_0, getS_s, rdAll, rdO, Slot.frz, primF, cmpF, truD, biF_lenT, biF_lenL, biF_tupT, biF_tupL, biF_listT, biF_listL, biF_intI, biF_intB, biF_absI, len_enc, len_row, natI, binF, freshP, isOwn, eqF_int, addI, subI, argS, backA, slotsOf, isiF]
    have ep := ev_call2 e4 es wp
    refine ws_cons (ws_set ep ?_)
    refine ws_nil ⟨rfl, some (.dat (.int ((x : Int) + 1))), some (.dat (.int (cc n A (x + 1)))), x + 1, rfl, ht', ?_⟩
    rw [List.range_succ (n := x + 1), List.map_append, List.map_singleton]
    rfl
  · obtain ⟨y, z, t, e, ht, rfl⟩ := h
    have : t = n := by
      have := congrArg List.length e
      simp at this; omega
    subst this
    exact ws_cons (ws_ret (d := .dat (.tup ((List.range (t + 1)).map fun k => .int (cc t A k)))) (ρ1 := [some (.dat (enc t t A)), some (.dat (.int t)), y, some (.own ((List.range (t + 1)).map fun k => .int (cc t A k))), some (.dat (enc t t (hh t A t))), z]) (by simp [opnds_nilS, opnds_consS, opnd_slot, opnd_ex, ev_var, ev_con, ev_prim, ev_dsp, ev_bop, ev_not, ev_ite, ev_isi, ev_callS, evs_nil, evs_cons, evC_nil, evC_cons, evB_one, evB_more, evT_bop, evT_not, evT_val, evo_var, evo_call', evo_dsp, evo_prim, evo_con, evo_bop, evo_not, evo_ite, evo_isi, getS_0, getS_s, rdAll, rdO, Slot.frz, primF, cmpF, truD, biF_lenT, biF_lenL, biF_tupT, biF_tupL, biF_listT, biF_listL, biF_intI, biF_intB, biF_absI, len_enc, len_row, natI, binF, freshP, isOwn, eqF_int, addI, subI, argS, backA, slotsOf, isiF]) rfl)
theorem last_cc {n : Nat} {A : M} : atI ((List.range (n + 1)).map fun k => D.int (cc n A k)) (-1) = some (.int (cc n A n)) := by
  rw [List.range_succ, List.map_append]
  exact atI_last _ _
theorem w_det {n : Nat} {A : M} (hn : n ≤ 4) (hB : Bd 2 A) : callV (sigOf defs (k + 3)) "determinant_of" [enc n n A] = .ok (.dat (.int (if n % 2 = 0 then cc n A n else 0 - cc n A n))) := by
  refine callV_run fnd_determinant_of ⟨rfl, by decide⟩ ?_
  show WSs _ d_determinant_of.body [some (.dat (enc n n A)), none] _
  refine ws_cons (ws_set (ev_call1 (d := enc n n A) (ρ1 := [some (.dat (enc n n A)), none]) ?_ (w_char hn hB)) ?_)
  · simp [opnds_nilS, opnds_consS, opnd_slot, opnd_ex, ev_var, ev_con, ev_prim, ev_dsp, ev_bop, ev_not, ev_ite, ev_isi, ev_callS, evs_nil, evs_cons, evC_nil, evC_cons, evB_one, evB_more, evT_bop, evT_not, evT_val, evo_var, evo_call', evo_dsp, evo_prim, evo_con, evo_bop, evo_not, evo_ite, evo_isi, getS_0, getS_s, rdAll, rdO, Slot.frz, primF, cmpF, truD, biF_lenT, biF_lenL, biF_tupT, biF_tupL, biF_listT, biF_listL, biF_intI, biF_intB, biF_absI, len_enc, len_row, natI, binF, freshP, isOwn, eqF_int, addI, subI, argS, backA, slotsOf, isiF]
  refine ws_cons (ws_ret (d := .dat (.int (if n % 2 = 0 then cc n A n else 0 - cc n A n))) (ρ1 := [some (.dat (enc n n A)), some (.dat (.tup ((List.range (n + 1)).map fun k => .int (cc n A k))))]) ?_ rfl)
  have e2 : ixF (.tup ((List.range (n + 1)).map fun k => D.int (cc n A k))) (.int (-1)) = some (.int (cc n A n)) := last_cc
  have e3 : binI .Mod (n : Int) 2 = some ((n : Int) % 2) := mdI (by decide)
  by_cases c : n % 2 = 0
  · have : (n : Int) % 2 = 0 := by omega
    simp [opnds_nilS, opnds_consS, opnd_slot, opnd_ex, ev_var, ev_con, ev_prim, ev_dsp, ev_bop, ev_not, ev_ite, ev_isi, ev_callS, evs_nil, evs_cons, evC_nil, evC_cons, evB_one, evB_more, evT_bop, evT_not, evT_val, evo_var, evo_call', evo_dsp, evo_prim, evo_con, evo_bop, evo_not, evo_ite, evo_isi, getS_0, getS_s, rdAll, rdO, Slot.frz, primF, cmpF, truD, biF_lenT, biF_lenL, biF_tupT, biF_tupL, biF_listT, biF_listL, biF_intI, biF_intB, biF_absI, len_enc, len_row, natI, binF, freshP, isOwn, eqF_int, addI, subI, argS, backA, slotsOf, isiF, e2, e3, this, c]
  · have : ¬ (n : Int) % 2 = 0 := by omega
    simp [opnds_nilS, opnds_consS, opnd_slot, opnd_ex, ev_var, ev_con, ev_prim, ev_dsp, ev_bop, ev_not, ev_ite, ev_isi, ev_callS, evs_nil, evs_cons, evC_nil, evC_cons, evB_one, evB_more, evT_bop, evT_not, evT_val, evo_var, evo_call', evo_dsp, evo_prim, evo_con, evo_bop, evo_not, evo_ite, evo_isi, getS_0, getS_s, rdAll, rdO, Slot.frz, primF, cmpF, truD, biF_lenT, biF_lenL, biF_tupT, biF_tupL, biF_listT, biF_listL, biF_intI, biF_intB, biF_absI, len_enc, len_row, natI, binF, freshP, isOwn, eqF_int, addI, subI, argS, backA, slotsOf, isiF, e2, e3, this, c]
theorem w_traces {n : Nat} {A : M} (hn : n ≤ 4) (hS : Sup n A) (hB : Bd 2 A) : callV (sigOf defs (k + 2)) "traces" [enc n n A, .int 7] = .ok (.own ((List.range 7).map fun k => .int (p n A (k + 1)))) := by
  refine callV_run fnd_traces ⟨rfl, by decide⟩ ?_
  show WSs _ d_traces.body [some (.dat (enc n n A)), some (.dat (.int 7)), none, none, none] _
  refine ws_cons (ws_par (s := .own []) (t := .dat (enc n n A)) (ρ1 := [some (.dat (enc n n A)), some (.dat (.int 7)), none, none, none]) (ρ2 := [some (.dat (enc n n A)), some (.dat (.int 7)), none, none, none]) (evc_t ?_) (evc_f ?_) ?_)
  · simp [opnds_nilS, opnds_consS, opnd_slot, opnd_ex, ev_var, ev_con, ev_prim, ev_dsp, ev_bop, ev_not, ev_ite, ev_isi, ev_callS, evs_nil, evs_cons, evC_nil, evC_cons, evB_one, evB_more, evT_bop, evT_not, evT_val, evo_var, evo_call', evo_dsp, evo_prim, evo_con, evo_bop, evo_not, evo_ite, evo_isi, getS_0, getS_s, rdAll, rdO, Slot.frz, primF, cmpF, truD, biF_lenT, biF_lenL, biF_tupT, biF_tupL, biF_listT, biF_listL, biF_intI, biF_intB, biF_absI, len_enc, len_row, natI, binF, freshP, isOwn, eqF_int, addI, subI, argS, backA, slotsOf, isiF]
  · simp [opnds_nilS, opnds_consS, opnd_slot, opnd_ex, ev_var, ev_con, ev_prim, ev_dsp, ev_bop, ev_not, ev_ite, ev_isi, ev_callS, evs_nil, evs_cons, evC_nil, evC_cons, evB_one, evB_more, evT_bop, evT_not, evT_val, evo_var, evo_call', evo_dsp, evo_prim, evo_con, evo_bop, evo_not, evo_ite, evo_isi, getS_0, getS_s, rdAll, rdO, Slot.frz, primF, cmpF, truD, biF_lenT, biF_lenL, biF_tupT, biF_tupL, biF_listT, biF_listL, biF_intI, biF_intB, biF_absI, len_enc, len_row, natI, binF, freshP, isOwn, eqF_int, addI, subI, argS, backA, slotsOf, isiF]
  refine ws_cons (ws_loop (L := List.range 7) (ds := [.int ((7 : Nat) : Int)]) (ρ1 := [some (.dat (enc n n A)), some (.dat (.int 7)), none, some (.own []), some (.dat (enc n n A))]) (fun j => .int (j : Int))
    (fun xs ρ => ∃ y t, xs = (List.range 7).drop t ∧ t ≤ 7 ∧ ρ = [some (.dat (enc n n A)), some (.dat (.int 7)), y, some (.own ((List.range t).map fun k => .int (p n A (k + 1)))), some (.dat (enc n n (pw n A (t + 1))))]) ?_ (rng_nat (n := 7) (Nat.le_of_lt (lt_lim (by omega)))) rfl ⟨none, 0, rfl, Nat.zero_le _, by rw [show pw n A (0 + 1) = A from pw_one hS]; rfl⟩ (fun x xs ρ h => ?_) (fun ρ h => ?_))
  · simp [opnds_nilS, opnds_consS, opnd_slot, opnd_ex, ev_var, ev_con, ev_prim, ev_dsp, ev_bop, ev_not, ev_ite, ev_isi, ev_callS, evs_nil, evs_cons, evC_nil, evC_cons, evB_one, evB_more, evT_bop, evT_not, evT_val, evo_var, evo_call', evo_dsp, evo_prim, evo_con, evo_bop, evo_not, evo_ite, evo_isi, getS_0, getS_s, rdAll, rdO, Slot.frz, primF, cmpF, truD, biF_lenT, biF_lenL, biF_tupT, biF_tupL, biF_listT, biF_listL, biF_intI, biF_intB, biF_absI, len_enc, len_row, natI, binF, freshP, isOwn, eqF_int, addI, subI, argS, backA, slotsOf, isiF]
  · obtain ⟨y, t, e, ht, rfl⟩ := h
    have ht' : t < 7 := by
      rcases Nat.lt_or_ge t 7 with c | c
      · exact c
      · rw [List.drop_eq_nil_of_le (by rw [List.length_range]; exact c)] at e; cases e
    rw [List.drop_eq_getElem_cons (by rw [List.length_range]; exact ht')] at e
    simp only [List.getElem_range, List.cons.injEq] at e
    obtain ⟨rfl, rfl⟩ := e
    refine ⟨_, rfl, ?_⟩
    refine ws_cons (ws_app rfl (ρ1 := [some (.dat (enc n n A)), some (.dat (.int 7)), some (.dat (.int (x : Int))), some (.own ((List.range x).map fun k => .int (p n A (k + 1)))), some (.dat (enc n n (pw n A (x + 1))))]) (d := .int (p n A (x + 1))) (ev_call1 (d := enc n n (pw n A (x + 1))) ?_ (w_trace hn)) rfl (by rw [List.length_map, List.length_range]; exact lt_lim (by omega)) ?_)
    · simp [opnds_nilS, opnds_consS, opnd_slot, opnd_ex, ev_var, ev_con, ev_prim, ev_dsp, ev_bop, ev_not, ev_ite, ev_isi, ev_callS, evs_nil, evs_cons, evC_nil, evC_cons, evB_one, evB_more, evT_bop, evT_not, evT_val, evo_var, evo_call', evo_dsp, evo_prim, evo_con, evo_bop, evo_not, evo_ite, evo_isi, getS_0, getS_s, rdAll, rdO, Slot.frz, primF, cmpF, truD, biF_lenT, biF_lenL, biF_tupT, biF_tupL, biF_listT, biF_listL, biF_intI, biF_intB, biF_absI, len_enc, len_row, natI, binF, freshP, isOwn, eqF_int, addI, subI, argS, backA, slotsOf, isiF]; try rfl
    refine ws_cons (ws_set (ev_call2 (ρ1 := [some (.dat (enc n n A)), some (.dat (.int 7)), some (.dat (.int (x : Int))), some (.own ((List.range x).map (fun k => D.int (p n A (k + 1))) ++ [.int (p n A (x + 1))])), some (.dat (enc n n (pw n A (x + 1))))]) (ρ2 := [some (.dat (enc n n A)), some (.dat (.int 7)), some (.dat (.int (x : Int))), some (.own ((List.range x).map (fun k => D.int (p n A (k + 1))) ++ [.int (p n A (x + 1))])), some (.dat (enc n n (pw n A (x + 1))))]) (d := enc n n (pw n A (x + 1))) (d' := enc n n A) ?_ ?_ (w_times hn hn hn id (bd_pn hn hB (by omega)) hB (by decide) (by decide) (by decide))) ?_)
    · simp [opnds_nilS, opnds_consS, opnd_slot, opnd_ex, ev_var, ev_con, ev_prim, ev_dsp, ev_bop, ev_not, ev_ite, ev_isi, ev_callS, evs_nil, evs_cons, evC_nil, evC_cons, evB_one, evB_more, evT_bop, evT_not, evT_val, evo_var, evo_call', evo_dsp, evo_prim, evo_con, evo_bop, evo_not, evo_ite, evo_isi, getS_0, getS_s, rdAll, rdO, Slot.frz, primF, cmpF, truD, biF_lenT, biF_lenL, biF_tupT, biF_tupL, biF_listT, biF_listL, biF_intI, biF_intB, biF_absI, len_enc, len_row, natI, binF, freshP, isOwn, eqF_int, addI, subI, argS, backA, slotsOf, isiF]
    · simp [opnds_nilS, opnds_consS, opnd_slot, opnd_ex, ev_var, ev_con, ev_prim, ev_dsp, ev_bop, ev_not, ev_ite, ev_isi, ev_callS, evs_nil, evs_cons, evC_nil, evC_cons, evB_one, evB_more, evT_bop, evT_not, evT_val, evo_var, evo_call', evo_dsp, evo_prim, evo_con, evo_bop, evo_not, evo_ite, evo_isi, getS_0, getS_s, rdAll, rdO, Slot.frz, primF, cmpF, truD, biF_lenT, biF_lenL, biF_tupT, biF_tupL, biF_listT, biF_listL, biF_intI, biF_intB, biF_absI, len_enc, len_row, natI, binF, freshP, isOwn, eqF_int, addI, subI, argS, backA, slotsOf, isiF]
    refine ws_nil ⟨rfl, some (.dat (.int (x : Int))), x + 1, rfl, ht', ?_⟩
    rw [List.range_succ, List.map_append]; rfl
  · obtain ⟨y, t, e, ht, rfl⟩ := h
    have : t = 7 := by
      have := congrArg List.length e
      simp at this; omega
    subst this
    exact ws_cons (ws_ret (d := .own ((List.range 7).map fun k => .int (p n A (k + 1)))) (ρ1 := [some (.dat (enc n n A)), some (.dat (.int 7)), y, none, some (.dat (enc n n (pw n A (7 + 1))))]) (by simp [opnds_nilS, opnds_consS, opnd_slot, opnd_ex, ev_var, ev_con, ev_prim, ev_dsp, ev_bop, ev_not, ev_ite, ev_isi, ev_callS, evs_nil, evs_cons, evC_nil, evC_cons, evB_one, evB_more, evT_bop, evT_not, evT_val, evo_var, evo_call', evo_dsp, evo_prim, evo_con, evo_bop, evo_not, evo_ite, evo_isi, getS_0, getS_s, rdAll, rdO, Slot.frz, primF, cmpF, truD, biF_lenT, biF_lenL, biF_tupT, biF_tupL, biF_listT, biF_listL, biF_intI, biF_intB, biF_absI, len_enc, len_row, natI, binF, freshP, isOwn, eqF_int, addI, subI, argS, backA, slotsOf, isiF]) rfl)
end

end LW

set_option Elab.async false
set_option linter.all false
set_option maxRecDepth 100000
set_option maxHeartbeats 2000000
namespace LW
open PySem L2 Px Py KM

def nums (n : Nat) (A : M) : D := .tup ((List.range (n + 1)).map fun k => .int (cc n A k))
def trs (n : Nat) (A : M) (x : Nat) : List D := (List.range x).map fun k => .int (p n A (k + 1))
theorem bd_p {n k : Nat} {A : M} (hn : n ≤ 4) (hB : Bd 2 A) (hk : k ≤ 14) : (p n A k).natAbs < 2 ^ 62 := S_bd4 hn fun i _ => bd_pn hn hB hk i i
section
variable {k : Nat}
theorem tbn_term {G : Sig} {ns fs : List D} {m : Int} {kk j a b ab : Int} {t : Option Px.Slot} (h1 : atI ns j = some (.int a)) (h2 : atI fs (kk - j - 1) = some (.int b)) (h3 : binI .Mult a b = some ab) :
    ev G (.prim (.bin .Mult) [.ex (.prim .ix [.slot 0, .slot 5]), .ex (.prim .ix [.slot 2, .ex (.prim (.bin .Sub) [.ex (.prim (.bin .Sub) [.slot 3, .slot 5]), .ex (.con (.int 1))])])]) [some (.dat (.tup ns)), some (.dat (.int m)), some (.own fs), some (.dat (.int kk)), t, some (.dat (.int j))] = .ok (.int ab, [some (.dat (.tup ns)), some (.dat (.int m)), some (.own fs), some (.dat (.int kk)), t, some (.dat (.int j))]) := by
  simp [opnds_nilS, opnds_consS, opnd_slot, opnd_ex, ev_var, ev_con, ev_prim, ev_dsp, ev_bop, ev_not, ev_ite, ev_isi, ev_callS, evs_nil, evs_cons, evC_nil, evC_cons, evB_one, evB_more, evT_bop, evT_not, evT_val, evo_var, evo_call', evo_dsp, evo_prim, evo_con, evo_bop, evo_not, evo_ite, evo_isi, getS_0, getS_s, rdAll, rdO, Slot.frz, primF, cmpF, truD, biF_lenT, biF_lenL, biF_tupT, biF_tupL, biF_listT, biF_listL, biF_intI, biF_intB, biF_absI, len_enc, len_row, natI, binF, freshP, isOwn, eqF_int, addI, subI, argS, backA, slotsOf, isiF, ixF, h1, h2, h3]
theorem at_n1 {φ : Nat → D} {n i : Nat} (h : i + 1 < n) : atI ((List.range n).map φ) ((i : Int) + 1) = some (φ (i + 1)) := at_range h
theorem tbn_init {G : Sig} {n x : Nat} {A : M} {m : Int} {fs : List D} {t u : Option Px.Slot} (hn : n ≤ 4) (hB : Bd 2 A) (hx : x < 7) :
    ev G (.ite (.val (.ex (.prim (.cmp .Lt) [.slot 3, .ex (.prim (.bi .len) [.slot 0])]))) (.prim (.bin .Sub) [.ex (.con (.int 0)), .ex (.prim (.bin .Mult) [.slot 3, .ex (.prim .ix [.slot 0, .slot 3])])]) (.con (.int 0))) [some (.dat (nums n A)), some (.dat (.int m)), some (.own fs), some (.dat (.int ((x : Int) + 1))), t, u]
      = .ok (.int (-((x : Int) + 1) * c' n A (x + 1)), [some (.dat (nums n A)), some (.dat (.int m)), some (.own fs), some (.dat (.int ((x : Int) + 1))), t, u]) := by
  unfold c'
  by_cases c : x + 1 ≤ n
  · have e1 : atI ((List.range (n + 1)).map fun k => D.int (cc n A k)) ((x : Int) + 1) = some (.int (cc n A (x + 1))) := at_n1 (by omega)
    have e2 : binI .Mult ((x : Int) + 1) (cc n A (x + 1)) = some (((x : Int) + 1) * cc n A (x + 1)) := mulI (a := 4) (b := 50) (by omega) (bd_cn hn hB (by omega)) (by decide) (by decide) (by decide)
    have e3 : (x : Int) < n := by omega
    rw [if_pos c, Int.neg_mul]
    simp [opnds_nilS, opnds_consS, opnd_slot, opnd_ex, ev_var, ev_con, ev_prim, ev_dsp, ev_bop, ev_not, ev_ite, ev_isi, ev_callS, evs_nil, evs_cons, evC_nil, evC_cons, evB_one, evB_more, evT_bop, evT_not, evT_val, evo_var, evo_call', evo_dsp, evo_prim, evo_con, evo_bop, evo_not, evo_ite, evo_isi, getS_0, getS_s, rdAll, rdO, Slot.frz, primF, cmpF, truD, biF_lenT, biF_lenL, biF_tupT, biF_tupL, biF_listT, biF_listL, biF_intI, biF_intB, biF_absI, len_enc, len_row, natI, binF, freshP, isOwn, eqF_int, addI, subI, argS, backA, slotsOf, isiF, nums, ixF, e1, e2, e3]
  · have e3 : ¬ (x : Int) < n := by omega
    rw [if_neg c, Int.mul_zero]
    simp [opnds_nilS, opnds_consS, opnd_slot, opnd_ex, ev_var, ev_con, ev_prim, ev_dsp, ev_bop, ev_not, ev_ite, ev_isi, ev_callS, evs_nil, evs_cons, evC_nil, evC_cons, evB_one, evB_more, evT_bop, evT_not, evT_val, evo_var, evo_call', evo_dsp, evo_prim, evo_con, evo_bop, evo_not, evo_ite, evo_isi, getS_0, getS_s, rdAll, rdO, Slot.frz, primF, cmpF, truD, biF_lenT, biF_lenL, biF_tupT, biF_tupL, biF_listT, biF_listL, biF_intI, biF_intB, biF_absI, len_enc, len_row, natI, binF, freshP, isOwn, eqF_int, addI, subI, argS, backA, slotsOf, isiF, nums, e3]
theorem w_tbn {n : Nat} {A : M} (hn : n ≤ 4) (hS : Sup n A) (hB : Bd 2 A) : callV (sigOf defs (k + 1)) "traces_by_numbers" [nums n A, .int 7] = .ok (.own (trs n A 7)) := by
  refine callV_run fnd_traces_by_numbers ⟨rfl, by decide⟩ ?_
  show WSs _ d_traces_by_numbers.body [some (.dat (nums n A)), some (.dat (.int 7)), none, none, none, none] _
  refine ws_cons (ws_seto (d := .own []) (ρ1 := [some (.dat (nums n A)), some (.dat (.int 7)), none, none, none, none]) ?_ ?_)
  · simp [opnds_nilS, opnds_consS, opnd_slot, opnd_ex, ev_var, ev_con, ev_prim, ev_dsp, ev_bop, ev_not, ev_ite, ev_isi, ev_callS, evs_nil, evs_cons, evC_nil, evC_cons, evB_one, evB_more, evT_bop, evT_not, evT_val, evo_var, evo_call', evo_dsp, evo_prim, evo_con, evo_bop, evo_not, evo_ite, evo_isi, getS_0, getS_s, rdAll, rdO, Slot.frz, primF, cmpF, truD, biF_lenT, biF_lenL, biF_tupT, biF_tupL, biF_listT, biF_listL, biF_intI, biF_intB, biF_absI, len_enc, len_row, natI, binF, freshP, isOwn, eqF_int, addI, subI, argS, backA, slotsOf, isiF]
  refine ws_cons (ws_loop (L := List.range 7) (ds := [.int 1, .int (((7 : Nat) : Int) + 1)]) (ρ1 := [some (.dat (nums n A)), some (.dat (.int 7)), some (.own []), none, none, none]) (fun j => .int ((j : Int) + 1))
    (fun xs ρ => ∃ y z u t, xs = (List.range 7).drop t ∧ t ≤ 7 ∧ ρ = [some (.dat (nums n A)), some (.dat (.int 7)), some (.own (trs n A t)), y, z, u]) ?_ (rng_from1 (n := 7) (by omega)) rfl ⟨none, none, none, 0, rfl, Nat.zero_le _, rfl⟩ (fun x xs ρ h => ?_) (fun ρ h => ?_))
  · simp [opnds_nilS, opnds_consS, opnd_slot, opnd_ex, ev_var, ev_con, ev_prim, ev_dsp, ev_bop, ev_not, ev_ite, ev_isi, ev_callS, evs_nil, evs_cons, evC_nil, evC_cons, evB_one, evB_more, evT_bop, evT_not, evT_val, evo_var, evo_call', evo_dsp, evo_prim, evo_con, evo_bop, evo_not, evo_ite, evo_isi, getS_0, getS_s, rdAll, rdO, Slot.frz, primF, cmpF, truD, biF_lenT, biF_lenL, biF_tupT, biF_tupL, biF_listT, biF_listL, biF_intI, biF_intB, biF_absI, len_enc, len_row, natI, binF, freshP, isOwn, eqF_int, addI, subI, argS, backA, slotsOf, isiF]
  · obtain ⟨y, z, u, t, e, ht, rfl⟩ := h
    have ht' : t < 7 := by
      rcases Nat.lt_or_ge t 7 with c | c
      · exact c
      · rw [List.drop_eq_nil_of_le (by rw [List.length_range]; exact c)] at e; cases e
    rw [List.drop_eq_getElem_cons (by rw [List.length_range]; exact ht')] at e
    simp only [List.getElem_range, List.cons.injEq] at e
    obtain ⟨rfl, rfl⟩ := e
    refine ⟨_, rfl, ?_⟩
    refine ws_cons (ws_set (tbn_init hn hB ht') ?_)
    refine ws_cons (ws_loop (L := List.range x) (ds := [.int 1, .int ((x : Int) + 1)]) (ρ1 := [some (.dat (nums n A)), some (.dat (.int 7)), some (.own (trs n A x)), some (.dat (.int ((x : Int) + 1))), some (.dat (.int (-((x : Int) + 1) * c' n A (x + 1)))), u]) (fun j => .int ((j : Int) + 1))
      (fun xs ρ => ∃ u t, xs = (List.range x).drop t ∧ t ≤ x ∧ ρ = [some (.dat (nums n A)), some (.dat (.int 7)), some (.own (trs n A x)), some (.dat (.int ((x : Int) + 1))), some (.dat (.int (-((x : Int) + 1) * c' n A (x + 1) - S t fun j => c' n A (j + 1) * p n A (x - j)))), u]) ?_ (rng_from1 (n := x) (by omega)) rfl ⟨u, 0, rfl, Nat.zero_le _, by rw [S_zero, Int.sub_zero]⟩ (fun j ys ρ h => ?_) (fun ρ h => ?_))
    · simp [opnds_nilS, opnds_consS, opnd_slot, opnd_ex, ev_var, ev_con, ev_prim, ev_dsp, ev_bop, ev_not, ev_ite, ev_isi, ev_callS, evs_nil, evs_cons, evC_nil, evC_cons, evB_one, evB_more, evT_bop, evT_not, evT_val, evo_var, evo_call', evo_dsp, evo_prim, evo_con, evo_bop, evo_not, evo_ite, evo_isi, getS_0, getS_s, rdAll, rdO, Slot.frz, primF, cmpF, truD, biF_lenT, biF_lenL, biF_tupT, biF_tupL, biF_listT, biF_listL, biF_intI, biF_intB, biF_absI, len_enc, len_row, natI, binF, freshP, isOwn, eqF_int, addI, subI, argS, backA, slotsOf, isiF]
    · obtain ⟨u, t, e, htx, rfl⟩ := h
      have htx' : t < x := by
        rcases Nat.lt_or_ge t x with c | c
        · exact c
        · rw [List.drop_eq_nil_of_le (by rw [List.length_range]; exact c)] at e; cases e
      rw [List.drop_eq_getElem_cons (by rw [List.length_range]; exact htx')] at e
      simp only [List.getElem_range, List.cons.injEq] at e
      obtain ⟨rfl, rfl⟩ := e
      refine ⟨_, rfl, ?_⟩
      refine ws_cons (ws_ite (t := decide (((j : Int) + 1) < ((n + 1 : Nat) : Int))) (ρ1 := [some (.dat (nums n A)), some (.dat (.int 7)), some (.own (trs n A x)), some (.dat (.int ((x : Int) + 1))), some (.dat (.int (-((x : Int) + 1) * c' n A (x + 1) - S j fun j => c' n A (j + 1) * p n A (x - j)))), some (.dat (.int ((j : Int) + 1)))]) ?_ (fun hb => ?_) (fun hb => ?_))
      · simp [opnds_nilS, opnds_consS, opnd_slot, opnd_ex, ev_var, ev_con, ev_prim, ev_dsp, ev_bop, ev_not, ev_ite, ev_isi, ev_callS, evs_nil, evs_cons, evC_nil, evC_cons, evB_one, evB_more, evT_bop, evT_not, evT_val, evo_var, evo_call', evo_dsp, evo_prim, evo_con, evo_bop, evo_not, evo_ite, evo_isi, getS_0, getS_s, rdAll, rdO, Slot.frz, primF, cmpF, truD, biF_lenT, biF_lenL, biF_tupT, biF_tupL, biF_listT, biF_listL, biF_intI, biF_intB, biF_absI, len_enc, len_row, natI, binF, freshP, isOwn, eqF_int, addI, subI, argS, backA, slotsOf, isiF, nums]
      · have hb : (j : Int) + 1 < ((n + 1 : Nat) : Int) := of_decide_eq_true hb
        have e1 : atI ((List.range (n + 1)).map fun k => D.int (cc n A k)) ((j : Int) + 1) = some (.int (cc n A (j + 1))) := at_n1 (by omega)
        have e2 : atI (trs n A x) ((x : Int) + 1 - ((j : Int) + 1) - 1) = some (.int (p n A (x - j))) := by
          rw [show (x : Int) + 1 - ((j : Int) + 1) - 1 = ((x - j - 1 : Nat) : Int) by omega]
          have := at_range (φ := fun k => D.int (p n A (k + 1))) (n := x) (i := x - j - 1) (by omega)
          rw [show x - j - 1 + 1 = x - j by omega] at this
          exact this
        have e3 := mulI (i := cc n A (j + 1)) (j := p n A (x - j)) (bd_cn hn hB (by omega)) (bd_p hn hB (by omega)) (by decide) (by decide) (by decide)
        refine ws_cons (ws_aug rfl (tbn_term e1 e2 e3) rfl (ws_nil (ws_nil ⟨rfl, some (.dat (.int ((j : Int) + 1))), j + 1, rfl, htx', ?_⟩)))
        rw [S_succ]
        unfold c'
        rw [if_pos (show j + 1 ≤ n by omega)]
        rw [← Int.sub_sub]
        rfl
      · have hb : ¬ (j : Int) + 1 < ((n + 1 : Nat) : Int) := of_decide_eq_false hb
        refine ws_nil (ws_nil ⟨rfl, some (.dat (.int ((j : Int) + 1))), j + 1, rfl, htx', ?_⟩)
        rw [S_succ, show c' n A (j + 1) = 0 from if_neg (by omega), Int.zero_mul, Int.add_zero]
    · obtain ⟨u, t, e, htx, rfl⟩ := h
      have : t = x := by
        have := congrArg List.length e
        simp at this; omega
      subst this
      have N := newton hn hS t
      have e5 : -((t : Int) + 1) * c' n A (t + 1) - (S t fun j => c' n A (j + 1) * p n A (t - j)) = p n A (t + 1) := by omega
      rw [e5]
      refine ws_cons (ws_app rfl (d := .int (p n A (t + 1))) (ρ1 := [some (.dat (nums n A)), some (.dat (.int 7)), some (.own (trs n A t)), some (.dat (.int ((t : Int) + 1))), some (.dat (.int (p n A (t + 1)))), u]) ?_ rfl (by unfold trs; rw [List.length_map, List.length_range]; exact lt_lim (by omega)) ?_)
      · simp [opnds_nilS, opnds_consS, opnd_slot, opnd_ex, ev_var, ev_con, ev_prim, ev_dsp, ev_bop, ev_not, ev_ite, ev_isi, ev_callS, evs_nil, evs_cons, evC_nil, evC_cons, evB_one, evB_more, evT_bop, evT_not, evT_val, evo_var, evo_call', evo_dsp, evo_prim, evo_con, evo_bop, evo_not, evo_ite, evo_isi, getS_0, getS_s, rdAll, rdO, Slot.frz, primF, cmpF, truD, biF_lenT, biF_lenL, biF_tupT, biF_tupL, biF_listT, biF_listL, biF_intI, biF_intB, biF_absI, len_enc, len_row, natI, binF, freshP, isOwn, eqF_int, addI, subI, argS, backA, slotsOf, isiF]
      refine ws_nil ⟨rfl, some (.dat (.int ((t : Int) + 1))), some (.dat (.int (p n A (t + 1)))), u, t + 1, rfl, ht', ?_⟩
      unfold trs
      rw [List.range_succ, List.map_append]; rfl
  · obtain ⟨y, z, u, t, e, ht, rfl⟩ := h
    have : t = 7 := by
      have := congrArg List.length e
      simp at this; omega
    subst this
    exact ws_cons (ws_ret (d := .own (trs n A 7)) (ρ1 := [some (.dat (nums n A)), some (.dat (.int 7)), none, y, z, u]) (by simp [opnds_nilS, opnds_consS, opnd_slot, opnd_ex, ev_var, ev_con, ev_prim, ev_dsp, ev_bop, ev_not, ev_ite, ev_isi, ev_callS, evs_nil, evs_cons, evC_nil, evC_cons, evB_one, evB_more, evT_bop, evT_not, evT_val, evo_var, evo_call', evo_dsp, evo_prim, evo_con, evo_bop, evo_not, evo_ite, evo_isi, getS_0, getS_s, rdAll, rdO, Slot.frz, primF, cmpF, truD, biF_lenT, biF_lenL, biF_tupT, biF_tupL, biF_listT, biF_listL, biF_intI, biF_intB, biF_absI, len_enc, len_row, natI, binF, freshP, isOwn, eqF_int, addI, subI, argS, backA, slotsOf, isiF]) rfl)
theorem sl1 {x : D} {xs : List D} : slF (some 1) none (.tup (x :: xs)) = some (.tup xs) := by
  show some (D.tup (cutL (x :: xs) (some 1) none)) = _
  unfold cutL
  rw [show HT.sIx (x :: xs).length 0 (some 1) = min 1 (x :: xs).length from HT.sIx_nat _ 0 1, HT.sIx_none, show min 1 (x :: xs).length = 1 by rw [List.length_cons]; omega]
  show some (D.tup (List.take ((x :: xs).length - 1) xs)) = _
  rw [List.length_cons, Nat.add_sub_cancel, List.take_length]
theorem w_nil {n : Nat} {A : M} (hn : n ≤ 4) (hB : Bd 2 A) : callV (sigOf defs (k + 3)) "is_nilpotent" [enc n n A] = .ok (.dat (.bl ((List.range n).all fun j => decide (cc n A (j + 1) = 0)))) := by
  refine callV_run fnd_is_nilpotent ⟨rfl, by decide⟩ ?_
  show WSs _ d_is_nilpotent.body [some (.dat (enc n n A)), none] _
  have ec : ev (sigOf defs (k + 2)) (.call "characteristic" [.ex (.var 0)]) [some (.dat (enc n n A)), none] = .ok (nums n A, [some (.dat (enc n n A)), none]) := ev_call1 (by simp [opnds_nilS, opnds_consS, opnd_slot, opnd_ex, ev_var, ev_con, ev_prim, ev_dsp, ev_bop, ev_not, ev_ite, ev_isi, ev_callS, evs_nil, evs_cons, evC_nil, evC_cons, evB_one, evB_more, evT_bop, evT_not, evT_val, evo_var, evo_call', evo_dsp, evo_prim, evo_con, evo_bop, evo_not, evo_ite, evo_isi, getS_0, getS_s, rdAll, rdO, Slot.frz, primF, cmpF, truD, biF_lenT, biF_lenL, biF_tupT, biF_tupL, biF_listT, biF_listL, biF_intI, biF_intB, biF_absI, len_enc, len_row, natI, binF, freshP, isOwn, eqF_int, addI, subI, argS, backA, slotsOf, isiF]) (w_char hn hB)
  have es : evs (sigOf defs (k + 2)) [.prim (.sl true false) [.ex (.call "characteristic" [.ex (.var 0)]), .ex (.con (.int 1))]] [some (.dat (enc n n A)), none] = .ok ([.tup ((List.range n).map fun j => .int (cc n A (j + 1)))], [some (.dat (enc n n A)), none]) := by
    have : slF (some 1) none (nums n A) = some (.tup ((List.range n).map fun j => .int (cc n A (j + 1)))) := by
      unfold nums
      rw [List.range_succ_eq_map, List.map_cons, List.map_map]
      exact sl1
    rw [evs_one, ev_prim, opnds_consS, opnd_ex, ec]
    simp [opnds_nilS, opnds_consS, opnd_slot, opnd_ex, ev_var, ev_con, ev_prim, ev_dsp, ev_bop, ev_not, ev_ite, ev_isi, ev_callS, evs_nil, evs_cons, evC_nil, evC_cons, evB_one, evB_more, evT_bop, evT_not, evT_val, evo_var, evo_call', evo_dsp, evo_prim, evo_con, evo_bop, evo_not, evo_ite, evo_isi, getS_0, getS_s, rdAll, rdO, Slot.frz, primF, cmpF, truD, biF_lenT, biF_lenL, biF_tupT, biF_tupL, biF_listT, biF_listL, biF_intI, biF_intB, biF_absI, len_enc, len_row, natI, binF, freshP, isOwn, eqF_int, addI, subI, argS, backA, slotsOf, isiF, this]
  have ea := ev_allC (L := List.range n) (f := fun j => decide (cc n A (j + 1) = 0)) (ev_cmp1 (G := sigOf defs (k + 2)) (v := 1) (ik := .seq) (elt := .prim (.cmp .Eq) [.slot 1, .ex (.con (.int 0))]) (L := List.range n) (fun j => .int (cc n A (j + 1))) (fun j => .bl (decide (cc n A (j + 1) = 0))) es rfl rfl (fun _ => rfl) (by rw [List.length_range]; exact lt_lim (by omega)) (fun j hj => by simp [opnds_nilS, opnds_consS, opnd_slot, opnd_ex, ev_var, ev_con, ev_prim, ev_dsp, ev_bop, ev_not, ev_ite, ev_isi, ev_callS, evs_nil, evs_cons, evC_nil, evC_cons, evB_one, evB_more, evT_bop, evT_not, evT_val, evo_var, evo_call', evo_dsp, evo_prim, evo_con, evo_bop, evo_not, evo_ite, evo_isi, getS_0, getS_s, rdAll, rdO, Slot.frz, primF, cmpF, truD, biF_lenT, biF_lenL, biF_tupT, biF_tupL, biF_listT, biF_listL, biF_intI, biF_intB, biF_absI, len_enc, len_row, natI, binF, freshP, isOwn, eqF_int, addI, subI, argS, backA, slotsOf, isiF]))
  refine ws_cons (ws_ret (d := .dat (.bl ((List.range n).all fun j => decide (cc n A (j + 1) = 0)))) (ρ1 := [some (.dat (enc n n A)), none]) ?_ rfl)
  rw [evo_prim, ea]; rfl
end

end LW

set_option Elab.async false
set_option linter.all false
set_option maxRecDepth 100000
set_option maxHeartbeats 2000000
namespace LW
open PySem L2 Px Py KM

theorem ev_bin2 {G : Sig} {op : Operator} {e e' : E} {ρ ρ1 ρ2 : PEnv} {a b c : Int} (h : ev G e ρ = .ok (.int a, ρ1)) (h' : ev G e' ρ1 = .ok (.int b, ρ2)) (hb : binI op a b = some c) : ev G (.prim (.bin op) [.ex e, .ex e']) ρ = .ok (.int c, ρ2) := by
  rw [ev_prim, opnds_consS, opnd_ex, h, Out.bind_okS, Out.bind_okS, opnds_consS, opnd_ex, h']
  simp only [Out.bind_okS, opnds_nilS, rdAll, rdO, Out.of_someS, primF, binF, hb, Option.map_some]
theorem slJ {xs : List D} {j : Nat} : slF none (some (j : Int)) (.tup xs) = some (.tup (xs.take j)) := by
  show some (D.tup (cutL xs none (some (j : Int)))) = _
  unfold cutL
  rw [HT.sIx_none, HT.sIx_nat, List.drop_zero, Nat.sub_zero]
  congr 2
  by_cases h : j ≤ xs.length
  · rw [Nat.min_eq_left h]
  · rw [Nat.min_eq_right (by omega), List.take_length, List.take_of_length_le (by omega)]
theorem cutD {xs : List D} {j : Nat} : cutL xs (some (j : Int)) none = xs.drop j := by
  unfold cutL
  rw [HT.sIx_none, HT.sIx_nat]
  by_cases h : j ≤ xs.length
  · rw [Nat.min_eq_left h, List.take_of_length_le (by simp)]
  · rw [Nat.min_eq_right (by omega), List.drop_length, List.drop_eq_nil_of_le (by omega), List.take_nil]
theorem slD {xs : List D} {j : Nat} : slF (some (j : Int)) none (.tup xs) = some (.tup (xs.drop j)) := by
  show some (D.tup (cutL xs (some (j : Int)) none)) = _
  rw [cutD]
theorem slDL {xs : List D} {j : Nat} : slF (some (j : Int)) none (.lst xs) = some (.lst (xs.drop j)) := by
  show some (D.lst (cutL xs (some (j : Int)) none)) = _
  rw [cutD]
theorem del_range {ψ : Nat → D} {n j : Nat} (h : j ≤ n) : ((List.range (n + 1)).map ψ).take j ++ ((List.range (n + 1)).map ψ).drop (j + 1) = (List.range n).map fun l => ψ (if l < j then l else l + 1) := by
  apply List.ext_getElem
  · simp; omega
  · intro i h1 h2
    simp only [List.length_map, List.length_range] at h2
    rw [List.getElem_append]
    simp only [List.length_take, List.length_map, List.length_range, List.getElem_map, List.getElem_range]
    by_cases c : i < j
    · rw [dif_pos (by omega), if_pos c]; simp
    · rw [dif_neg (by omega), if_neg c]; simp only [List.getElem_drop, List.getElem_map, List.getElem_range]
      congr 1
      omega
def mnr (f : M) (j : Nat) : M := fun i l => f (i + 1) (if l < j then l else l + 1)
theorem bd_ld {b : Nat} : ∀ {n : Nat} {f : M}, n ≤ 4 → Bd b f → (ldF n f).natAbs < 2 ^ (n * (b + 2) + 1)
  | 0, _, _, _ => by show (1 : Int).natAbs < 2 ^ (0 * (b + 2) + 1); rw [Nat.zero_mul]; decide
  | n + 1, f, hn, h => by
    have : (ldF (n + 1) f).natAbs < 2 ^ (b + (n * (b + 2) + 1) + 2) := by
      refine S_bd4 hn fun j _ => prod_bd ?_ (bd_ld (by omega) fun i l => h _ _)
      split
      · rw [Int.mul_one]; exact h 0 j
      · rw [Int.mul_neg, Int.mul_one, Int.natAbs_neg]; exact h 0 j
    rw [show (n + 1) * (b + 2) + 1 = b + (n * (b + 2) + 1) + 2 by rw [Nat.succ_mul]; omega]
    exact this
theorem sgn_ev {G : Sig} {ρ : PEnv} {j : Nat} (hj : getS ρ 2 = some (.dat (.int (j : Int)))) : ev G (.prim .ix [.ex (.dsp false [.con (.int 1), .prim .neg [.ex (.con (.int 1))]]), .ex (.prim (.bin .Mod) [.ex (.prim (.bi .int) [.slot 2]), .ex (.con (.int 2))])]) ρ = .ok (.int (if j % 2 = 0 then 1 else -1), ρ) := by
  have e1 : ev G (.dsp false [.con (.int 1), .prim .neg [.ex (.con (.int 1))]]) ρ = .ok (.lst [.int 1, .int (-1)], ρ) := by
    simp [opnds_nilS, opnds_consS, opnd_slot, opnd_ex, ev_var, ev_con, ev_prim, ev_dsp, ev_bop, ev_not, ev_ite, ev_isi, ev_callS, evs_nil, evs_cons, evC_nil, evC_cons, evB_one, evB_more, evT_bop, evT_not, evT_val, evo_var, evo_call', evo_dsp, evo_prim, evo_con, evo_bop, evo_not, evo_ite, evo_isi, getS_0, getS_s, rdAll, rdO, Slot.frz, primF, cmpF, truD, biF_lenT, biF_lenL, biF_tupT, biF_tupL, biF_listT, biF_listL, biF_intI, biF_intB, biF_absI, len_enc, len_row, natI, binF, freshP, isOwn, eqF_int, addI, subI, argS, backA, slotsOf, isiF]
    unfold lim; decide
  have e2 : ev G (.prim (.bi .int) [.slot 2]) ρ = .ok (.int (j : Int), ρ) := by
    simp [opnds_nilS, opnds_consS, opnd_slot, opnd_ex, ev_var, ev_con, ev_prim, ev_dsp, ev_bop, ev_not, ev_ite, ev_isi, ev_callS, evs_nil, evs_cons, evC_nil, evC_cons, evB_one, evB_more, evT_bop, evT_not, evT_val, evo_var, evo_call', evo_dsp, evo_prim, evo_con, evo_bop, evo_not, evo_ite, evo_isi, getS_0, getS_s, rdAll, rdO, Slot.frz, primF, cmpF, truD, biF_lenT, biF_lenL, biF_tupT, biF_tupL, biF_listT, biF_listL, biF_intI, biF_intB, biF_absI, len_enc, len_row, natI, binF, freshP, isOwn, eqF_int, addI, subI, argS, backA, slotsOf, isiF, hj]
  have e3 : ev G (.prim (.bin .Mod) [.ex (.prim (.bi .int) [.slot 2]), .ex (.con (.int 2))]) ρ = .ok (.int ((j : Int) % 2), ρ) := ev_bin2 e2 ev_con (mdI (by decide))
  have e4 : atI [D.int 1, D.int (-1)] ((j : Int) % 2) = some (.int (if j % 2 = 0 then 1 else -1)) := by
    by_cases c : j % 2 = 0
    · rw [show (j : Int) % 2 = 0 by omega, if_pos c]; rfl
    · rw [show (j : Int) % 2 = 1 by omega, if_neg c]; rfl
  rw [ev_prim, opnds_consS, opnd_ex, e1, Out.bind_okS, Out.bind_okS, opnds_consS, opnd_ex, e3]
  simp only [Out.bind_okS, opnds_nilS, rdAll, rdO, Out.of_someS, primF, ixF, e4]
section
def tl (d : D) (L : List D) : Prop := d = .tup L ∨ d = .lst L
theorem w_ldet {b : Nat} (hb : 0 < b) (hb2 : b ≤ 40) : ∀ {n k : Nat} {f : M} {d : D}, n ≤ 4 → Bd b f → tl d ((List.range n).map (row n f)) → callV (sigOf defs (k + n + 1)) "_law_determinant" [d] = .ok (.dat (.int (ldF n f)))
  | 0, k, f, d, hn, hf, hd => by
    refine callV_run fnd_law_determinant ⟨rfl, by decide⟩ ?_
    show WSs _ d_law_determinant.body [some (.dat d), none, none, none, none] _
    refine ws_cons (ws_ite (t := true) (ρ1 := [some (.dat d), none, none, none, none]) ?_ (fun _ => ?_) (fun h => by cases h))
    · rcases hd with rfl | rfl <;> simp [opnds_nilS, opnds_consS, opnd_slot, opnd_ex, ev_var, ev_con, ev_prim, ev_dsp, ev_bop, ev_not, ev_ite, ev_isi, ev_callS, evs_nil, evs_cons, evC_nil, evC_cons, evB_one, evB_more, evT_bop, evT_not, evT_val, evo_var, evo_call', evo_dsp, evo_prim, evo_con, evo_bop, evo_not, evo_ite, evo_isi, getS_0, getS_s, rdAll, rdO, Slot.frz, primF, cmpF, truD, biF_lenT, biF_lenL, biF_tupT, biF_tupL, biF_listT, biF_listL, biF_intI, biF_intB, biF_absI, len_enc, len_row, natI, binF, freshP, isOwn, eqF_int, addI, subI, argS, backA, slotsOf, isiF]
    exact ws_cons (ws_ret (d := .dat (.int 1)) (ρ1 := [some (.dat d), none, none, none, none]) (by simp [opnds_nilS, opnds_consS, opnd_slot, opnd_ex, ev_var, ev_con, ev_prim, ev_dsp, ev_bop, ev_not, ev_ite, ev_isi, ev_callS, evs_nil, evs_cons, evC_nil, evC_cons, evB_one, evB_more, evT_bop, evT_not, evT_val, evo_var, evo_call', evo_dsp, evo_prim, evo_con, evo_bop, evo_not, evo_ite, evo_isi, getS_0, getS_s, rdAll, rdO, Slot.frz, primF, cmpF, truD, biF_lenT, biF_lenL, biF_tupT, biF_tupL, biF_listT, biF_listL, biF_intI, biF_intB, biF_absI, len_enc, len_row, natI, binF, freshP, isOwn, eqF_int, addI, subI, argS, backA, slotsOf, isiF]) rfl)
  | n + 1, k, f, d, hn, hf, hd => by
    refine callV_run fnd_law_determinant ⟨rfl, by decide⟩ ?_
    show WSs _ d_law_determinant.body [some (.dat d), none, none, none, none] _
    have elen : ∀ {ρ : PEnv}, getS ρ 0 = some (.dat d) → ev (sigOf defs (k + (n + 1))) (.prim (.bi .len) [.slot 0]) ρ = .ok (.int ((n : Int) + 1), ρ) := by
      intro ρ h0
      rcases hd with rfl | rfl <;> simp [opnds_nilS, opnds_consS, opnd_slot, opnd_ex, ev_var, ev_con, ev_prim, ev_dsp, ev_bop, ev_not, ev_ite, ev_isi, ev_callS, evs_nil, evs_cons, evC_nil, evC_cons, evB_one, evB_more, evT_bop, evT_not, evT_val, evo_var, evo_call', evo_dsp, evo_prim, evo_con, evo_bop, evo_not, evo_ite, evo_isi, getS_0, getS_s, rdAll, rdO, Slot.frz, primF, cmpF, truD, biF_lenT, biF_lenL, biF_tupT, biF_tupL, biF_listT, biF_listL, biF_intI, biF_intB, biF_absI, len_enc, len_row, natI, binF, freshP, isOwn, eqF_int, addI, subI, argS, backA, slotsOf, isiF, h0]
    refine ws_cons (ws_ite (t := false) (ρ1 := [some (.dat d), none, none, none, none]) ?_ (fun h => by cases h) (fun _ => ?_))
    · have : ¬ (n : Int) + 1 = 0 := by omega
      have e := elen (ρ := [some (.dat d), none, none, none, none]) rfl
      rw [evT_val, opnd_ex, ev_prim, opnds_consS, opnd_ex, e]
      simp [opnds_nilS, opnds_consS, opnd_slot, opnd_ex, ev_var, ev_con, ev_prim, ev_dsp, ev_bop, ev_not, ev_ite, ev_isi, ev_callS, evs_nil, evs_cons, evC_nil, evC_cons, evB_one, evB_more, evT_bop, evT_not, evT_val, evo_var, evo_call', evo_dsp, evo_prim, evo_con, evo_bop, evo_not, evo_ite, evo_isi, getS_0, getS_s, rdAll, rdO, Slot.frz, primF, cmpF, truD, biF_lenT, biF_lenL, biF_tupT, biF_tupL, biF_listT, biF_listL, biF_intI, biF_intB, biF_absI, len_enc, len_row, natI, binF, freshP, isOwn, eqF_int, addI, subI, argS, backA, slotsOf, isiF, this]
    refine ws_nil (ws_cons (ws_set (d := .int 0) (ρ1 := [some (.dat d), none, none, none, none]) (by simp [opnds_nilS, opnds_consS, opnd_slot, opnd_ex, ev_var, ev_con, ev_prim, ev_dsp, ev_bop, ev_not, ev_ite, ev_isi, ev_callS, evs_nil, evs_cons, evC_nil, evC_cons, evB_one, evB_more, evT_bop, evT_not, evT_val, evo_var, evo_call', evo_dsp, evo_prim, evo_con, evo_bop, evo_not, evo_ite, evo_isi, getS_0, getS_s, rdAll, rdO, Slot.frz, primF, cmpF, truD, biF_lenT, biF_lenL, biF_tupT, biF_tupL, biF_listT, biF_listL, biF_intI, biF_intB, biF_absI, len_enc, len_row, natI, binF, freshP, isOwn, eqF_int, addI, subI, argS, backA, slotsOf, isiF]) ?_))
    refine ws_cons (ws_loop (L := List.range (n + 1)) (ds := [.int ((n + 1 : Nat) : Int)]) (ρ1 := [some (.dat d), some (.dat (.int 0)), none, none, none]) (fun j => .int (j : Int))
      (fun xs ρ => ∃ y z t, xs = (List.range (n + 1)).drop t ∧ t ≤ n + 1 ∧ ρ = [some (.dat d), some (.dat (.int (S t fun j => f 0 j * (if j % 2 = 0 then 1 else -1) * ldF n (mnr f j)))), y, z, none]) ?_ (rng_nat (n := n + 1) (Nat.le_of_lt (lt_lim (by omega)))) rfl ⟨none, none, 0, rfl, Nat.zero_le _, rfl⟩ (fun x xs ρ h => ?_) (fun ρ h => ?_))
    · rw [evs_one, elen rfl]; rfl
    · obtain ⟨y, z, t, e, ht, rfl⟩ := h
      have ht' : t < n + 1 := by
        rcases Nat.lt_or_ge t (n + 1) with c | c
        · exact c
        · rw [List.drop_eq_nil_of_le (by rw [List.length_range]; exact c)] at e; cases e
      rw [List.drop_eq_getElem_cons (by rw [List.length_range]; exact ht')] at e
      simp only [List.getElem_range, List.cons.injEq] at e
      obtain ⟨rfl, rfl⟩ := e
      refine ⟨_, rfl, ?_⟩
      generalize hs : (S x fun j => f 0 j * (if j % 2 = 0 then 1 else -1) * ldF n (mnr f j)) = s
      -- rest
      have er : ev (sigOf defs (k + (n + 1))) (.comp [4] (false, [4]) .seq [.prim (.sl true false) [.slot 0, .ex (.con (.int 1))]] [] (.prim (.bin .Add) [.ex (.prim (.sl false true) [.slot 4, .ex (.var 2)]), .ex (.prim (.sl true false) [.slot 4, .ex (.prim (.bin .Add) [.slot 2, .ex (.con (.int 1))])])])) [some (.dat d), some (.dat (.int s)), some (.dat (.int (x : Int))), z, none] = .ok (.lst ((List.range n).map (row n (mnr f x))), [some (.dat d), some (.dat (.int s)), some (.dat (.int (x : Int))), z, none]) := by
        have el : ∃ d', tl d' ((List.range n).map fun i => row (n + 1) f (i + 1)) ∧ slF (some 1) none d = some d' := by
          have em : ((List.range (n + 1)).map (row (n + 1) f)).drop 1 = (List.range n).map fun i => row (n + 1) f (i + 1) := by
            rw [List.range_succ_eq_map, List.map_cons, List.map_map]; rfl
          rcases hd with rfl | rfl
          · exact ⟨_, .inl rfl, by rw [← em]; exact slD (j := 1)⟩
          · exact ⟨_, .inr rfl, by rw [← em]; exact slDL (j := 1)⟩
        obtain ⟨d', hd', ed⟩ := el
        refine ev_cmp1 (L := List.range n) (ds := [d']) (fun i => row (n + 1) f (i + 1)) (row n (mnr f x)) ?_ ?_ rfl (fun _ => rfl) (by rw [List.length_range]; exact lt_lim (by omega)) (fun i hi => ?_)
        · simp [opnds_nilS, opnds_consS, opnd_slot, opnd_ex, ev_var, ev_con, ev_prim, ev_dsp, ev_bop, ev_not, ev_ite, ev_isi, ev_callS, evs_nil, evs_cons, evC_nil, evC_cons, evB_one, evB_more, evT_bop, evT_not, evT_val, evo_var, evo_call', evo_dsp, evo_prim, evo_con, evo_bop, evo_not, evo_ite, evo_isi, getS_0, getS_s, rdAll, rdO, Slot.frz, primF, cmpF, truD, biF_lenT, biF_lenL, biF_tupT, biF_tupL, biF_listT, biF_listL, biF_intI, biF_intB, biF_absI, len_enc, len_row, natI, binF, freshP, isOwn, eqF_int, addI, subI, argS, backA, slotsOf, isiF, evs_one, ed]
        · rcases hd' with rfl | rfl <;> rfl
        · have e1 := slJ (xs := (List.range (n + 1)).map fun j => D.int (f (i + 1) j)) (j := x)
          have e2 := slD (xs := (List.range (n + 1)).map fun j => D.int (f (i + 1) j)) (j := x + 1)
          have e3 := del_range (ψ := fun j => D.int (f (i + 1) j)) (n := n) (j := x) (by omega)
          rw [show ((x + 1 : Nat) : Int) = (x : Int) + 1 from rfl] at e2
          generalize ha : ((List.range (n + 1)).map fun j => D.int (f (i + 1) j)).take x = A at e1 e3
          generalize hb : ((List.range (n + 1)).map fun j => D.int (f (i + 1) j)).drop (x + 1) = B at e2 e3
          have hl : A.length + B.length ≤ lim := by
            have := congrArg List.length e3
            simp only [List.length_append, List.length_map, List.length_range] at this
            rw [this]; exact Nat.le_of_lt (lt_lim (by omega))
          have e4 : row n (mnr f x) i = .tup (A ++ B) := by rw [e3]; rfl
          rw [e4]
          unfold row
          simp [opnds_nilS, opnds_consS, opnd_slot, opnd_ex, ev_var, ev_con, ev_prim, ev_dsp, ev_bop, ev_not, ev_ite, ev_isi, ev_callS, evs_nil, evs_cons, evC_nil, evC_cons, evB_one, evB_more, evT_bop, evT_not, evT_val, evo_var, evo_call', evo_dsp, evo_prim, evo_con, evo_bop, evo_not, evo_ite, evo_isi, getS_0, getS_s, rdAll, rdO, Slot.frz, primF, cmpF, truD, biF_lenT, biF_lenL, biF_tupT, biF_tupL, biF_listT, biF_listL, biF_intI, biF_intB, biF_absI, len_enc, len_row, natI, binF, freshP, isOwn, eqF_int, addI, subI, argS, backA, slotsOf, isiF, e1, e2, hl]
      refine ws_cons (ws_set er ?_)
      have hld := bd_ld (b := b) (n := n) (f := mnr f x) (by omega) fun i l => hf _ _
      have ec : ev (sigOf defs (k + (n + 1))) (.call "_law_determinant" [.ex (.var 3)]) [some (.dat d), some (.dat (.int s)), some (.dat (.int (x : Int))), some (.dat (.lst ((List.range n).map (row n (mnr f x))))), none] = .ok (.int (ldF n (mnr f x)), [some (.dat d), some (.dat (.int s)), some (.dat (.int (x : Int))), some (.dat (.lst ((List.range n).map (row n (mnr f x))))), none]) :=
        ev_call1 (by simp [opnds_nilS, opnds_consS, opnd_slot, opnd_ex, ev_var, ev_con, ev_prim, ev_dsp, ev_bop, ev_not, ev_ite, ev_isi, ev_callS, evs_nil, evs_cons, evC_nil, evC_cons, evB_one, evB_more, evT_bop, evT_not, evT_val, evo_var, evo_call', evo_dsp, evo_prim, evo_con, evo_bop, evo_not, evo_ite, evo_isi, getS_0, getS_s, rdAll, rdO, Slot.frz, primF, cmpF, truD, biF_lenT, biF_lenL, biF_tupT, biF_tupL, biF_listT, biF_listL, biF_intI, biF_intB, biF_absI, len_enc, len_row, natI, binF, freshP, isOwn, eqF_int, addI, subI, argS, backA, slotsOf, isiF]) (w_ldet hb hb2 (by omega) (fun i l => hf _ _) (.inr rfl))
      have e0 : ev (sigOf defs (k + (n + 1))) (.prim .ix [.ex (.prim .ix [.slot 0, .ex (.con (.int 0))]), .slot 2]) [some (.dat d), some (.dat (.int s)), some (.dat (.int (x : Int))), some (.dat (.lst ((List.range n).map (row n (mnr f x))))), none] = .ok (.int (f 0 x), [some (.dat d), some (.dat (.int s)), some (.dat (.int (x : Int))), some (.dat (.lst ((List.range n).map (row n (mnr f x))))), none]) := by
        have a1 : ixF d (.int 0) = some (row (n + 1) f 0) := by
          rcases hd with rfl | rfl <;> exact at_range (i := 0) (by omega)
        have a2 := ix_row (m := n + 1) (i := 0) (f := f) ht'
        simp [opnds_nilS, opnds_consS, opnd_slot, opnd_ex, ev_var, ev_con, ev_prim, ev_dsp, ev_bop, ev_not, ev_ite, ev_isi, ev_callS, evs_nil, evs_cons, evC_nil, evC_cons, evB_one, evB_more, evT_bop, evT_not, evT_val, evo_var, evo_call', evo_dsp, evo_prim, evo_con, evo_bop, evo_not, evo_ite, evo_isi, getS_0, getS_s, rdAll, rdO, Slot.frz, primF, cmpF, truD, biF_lenT, biF_lenL, biF_tupT, biF_tupL, biF_listT, biF_listL, biF_intI, biF_intB, biF_absI, len_enc, len_row, natI, binF, freshP, isOwn, eqF_int, addI, subI, argS, backA, slotsOf, isiF, a1, a2]
      have eg : (f 0 x * (if x % 2 = 0 then 1 else -1)).natAbs < 2 ^ b := by
        split
        · rw [Int.mul_one]; exact hf 0 x
        · rw [Int.mul_neg, Int.mul_one, Int.natAbs_neg]; exact hf 0 x
      have em := ev_bin2 (ev_bin2 e0 (sgn_ev (j := x) rfl) (mulI (hf 0 x) (b := 1) (by split <;> decide) hb (by decide) (by omega))) ec (mulI eg hld hb (by omega) (by
        have : n * (b + 2) ≤ 4 * (b + 2) := Nat.mul_le_mul_right _ (by omega)
        omega))
      have ev1 : ev (sigOf defs (k + (n + 1))) (.prim (.bin .Add) [.slot 1, .ex (.prim (.bin .Mult) [.ex (.prim (.bin .Mult) [.ex (.prim .ix [.ex (.prim .ix [.slot 0, .ex (.con (.int 0))]), .slot 2]), .ex (.prim .ix [.ex (.dsp false [.con (.int 1), .prim .neg [.ex (.con (.int 1))]]), .ex (.prim (.bin .Mod) [.ex (.prim (.bi .int) [.slot 2]), .ex (.con (.int 2))])])]), .ex (.call "_law_determinant" [.ex (.var 3)])])]) [some (.dat d), some (.dat (.int s)), some (.dat (.int (x : Int))), some (.dat (.lst ((List.range n).map (row n (mnr f x))))), none] = .ok (.int (s + f 0 x * (if x % 2 = 0 then 1 else -1) * ldF n (mnr f x)), [some (.dat d), some (.dat (.int s)), some (.dat (.int (x : Int))), some (.dat (.lst ((List.range n).map (row n (mnr f x))))), none]) := by
        rw [ev_prim, opnds_consS, opnd_slot, getS_s, getS_0]
        simp only [Out.bind_okS, opnds_consS, opnd_ex, em, opnds_nilS, rdAll, rdO, getS_s, getS_0, Px.Slot.frz, Out.of_someS, primF, binF, addI, Option.map_some]
      refine ws_cons (ws_set ev1 (ws_nil ⟨rfl, some (.dat (.int (x : Int))), some (.dat (.lst ((List.range n).map (row n (mnr f x))))), x + 1, rfl, ht', ?_⟩))
      rw [S_succ, hs]; rfl
    · obtain ⟨y, z, t, e, ht, rfl⟩ := h
      have : t = n + 1 := by
        have := congrArg List.length e
        simp at this; omega
      subst this
      exact ws_cons (ws_ret (d := .dat (.int (ldF (n + 1) f))) (ρ1 := [some (.dat d), some (.dat (.int (ldF (n + 1) f))), y, z, none]) (by
        rw [evo_var, getS_s, getS_0]; rfl) rfl)
end

end LW

set_option Elab.async false
set_option linter.all false
set_option maxRecDepth 100000
set_option maxHeartbeats 2000000
namespace LW
open PySem L2 Px Py KM

theorem fnd_pick : Py.fnd defs "_law_pick" = some Py.d_law_pick := fnd_law_pick
theorem fnd_same : Py.fnd defs "_law_same" = some Py.d_law_same := fnd_law_same
theorem compL_st {α : Type} {f : D → PEnv → Out (List D × PEnv)} {φ : α → D} (I : PEnv → Prop) (R : α → D → Prop) : ∀ (L : List α), (∀ x ∈ L, ∀ ρ, I ρ → ∃ d ρ', f (φ x) ρ = .ok ([d], ρ') ∧ I ρ' ∧ R x d) → ∀ ρ, I ρ → ∃ ds ρ', compL f (L.map φ) ρ = .ok (ds, ρ') ∧ I ρ' ∧ ds.length = L.length ∧ ∀ i (hi : i < L.length) (hi' : i < ds.length), R L[i] ds[i]
  | [], _, ρ, h => ⟨[], ρ, rfl, h, rfl, fun i hi => absurd hi (by simp)⟩
  | x :: xs, st, ρ, h => by
    obtain ⟨d, ρ1, e1, i1, r1⟩ := st x (List.mem_cons_self ..) ρ h
    obtain ⟨ds, ρ2, e2, i2, l2, r2⟩ := compL_st I R xs (fun y hy => st y (List.mem_cons_of_mem _ hy)) ρ1 i1
    refine ⟨d :: ds, ρ2, ?_, i2, by simp [l2], fun i hi hi' => ?_⟩
    · show (f (φ x) ρ).bind _ = _
      rw [e1, Out.bind_okS]
      show (compL f (xs.map φ) ρ1).bind _ = _
      rw [e2, Out.bind_okS]; rfl
    · cases i with
      | zero => exact r1
      | succ i => exact r2 i (by simpa using hi) (by simpa using hi')
theorem ev_cmpS {G : Sig} {ρ : PEnv} {v : Nat} {ies : List E} {elt : E} {n : Nat} (I : PEnv → Prop) (R : Nat → D → Prop) (hn : n ≤ 16) (h1 : evs G ies ρ = .ok ([.int n], ρ)) (hI : I ρ) (hw : ∀ ρ, I ρ → ρ.set v none = ρ)
    (step : ∀ i, i < n → ∀ ρ, I ρ → ∃ d ρ', ev G elt (ρ.set v (some (.dat (.int (i : Int))))) = .ok (d, ρ') ∧ I (ρ'.set v none) ∧ R i d) :
    ∃ (h : Nat → D) (ρ' : PEnv), ev G (.comp [v] (false, [v]) .rng ies [] elt) ρ = .ok (.lst ((List.range n).map h), ρ') ∧ I ρ' ∧ ∀ i, i < n → R i (h i) := by
  have gn := set_none (hw ρ hI)
  have w1 : wipeP ρ [v] = ρ := hw ρ hI
  obtain ⟨ds, ρ', e, hI', hl, hR⟩ := compL_st (φ := fun i : Nat => D.int (i : Int)) (f := fun x ρ1 => (Out.of (setT ρ1 (false, [v]) x)).bind fun ρ2 => (evC G true [] ρ2).bind fun t => match t.1 with
          | true => (ev G elt t.2).bind fun r => if sameB .rng ρ r.2 = true then .ok ([r.1], wipeP r.2 [v]) else .bad
          | false => if sameB .rng ρ t.2 = true then .ok ([], wipeP t.2 [v]) else .bad) I R (List.range n) (fun i hi ρ1 hI1 => by
    obtain ⟨d, ρ2, a1, a2, a3⟩ := step i (List.mem_range.mp hi) ρ1 hI1
    refine ⟨d, ρ2.set v none, ?_, a2, a3⟩
    simp only [setT, Out.of_someS, Out.bind_okS, evC_nil, a1, sameB, if_true, wipeP]) ρ hI
  simp only [List.length_range] at hl
  refine ⟨fun i => ds.getD i .non, ρ', ?_, hI', fun i hi => ?_⟩
  · unfold ev
    rw [h1, Out.bind_okS, rng_nat (Nat.le_of_lt (lt_lim hn)), Out.of_someS, Out.bind_okS, if_pos (by simp [gn, isOwn]), w1]
    refine Eq.trans (congrArg (fun z => Out.bind z _) (show _ = Out.ok (ds, ρ') from e)) ?_
    show Out.bind (Out.ok (ds, ρ')) _ = _
    rw [Out.bind_okS, if_pos (by rw [hl]; exact lt_lim hn)]
    have e2 : ds = (List.range n).map fun i => ds.getD i .non := by
      apply List.ext_getElem
      · simp [hl]
      · intro i a b
        simp [List.getD_eq_getElem?_getD, List.getElem?_eq_getElem a]
    rw [← e2]
    congr 2
    show ρ'.set v (getS ρ v) = ρ'
    rw [gn, hw ρ' hI']
  · have a : i < ds.length := by omega
    have := hR i (by simpa using hi) a
    simp only [List.getElem_range] at this
    simpa [List.getD_eq_getElem?_getD, List.getElem?_eq_getElem a] using this
section
variable {k : Nat}
theorem callD_own {ds : List Def} {f : Str} {d : Def} {as : List Slot} {ρ' : PEnv} {r : Slot} {n : Nat} (hf : fnd ds f = some d) (h1 : as.length = d.np ∧ d.np ≤ d.N.length) (hn : d.N.length - as.length = n) (h2 : exs (sigOf ds k) d.body (as.map some ++ List.replicate n none) = .ok (.ret r, ρ')) (h3 : ownArgs as (wrs d.body) ρ' = true) : callD (sigOf ds (k + 1)) f as = .ok (r, ρ') := by
  unfold callD
  rw [find_run hf]
  show runDef (sigOf ds k) d as = _
  unfold runDef
  rw [if_pos h1, hn, h2, Out.bind_okS, if_pos h3]
theorem w_tab {st : List D} (hst : Good st) {n m : Nat} (hn : n ≤ 4) (hm : m ≤ 4) : ∃ (f : M) (st' : List D) (outs : PEnv), callD (sigOf defs (k + 2)) "_law_table" [.own st, .dat (.int n), .dat (.int m)] = .ok (.dat (enc n m f), outs) ∧ getS outs 0 = some (.own st') ∧ Good st' ∧ Bd 2 f ∧ ∀ i j, n ≤ i ∨ m ≤ j → f i j = 0 := by
  have inner : ∀ i, i < n → ∀ ρ, (∃ st, Good st ∧ ρ = [some (.own st), some (.dat (.int n)), some (.dat (.int m)), none, none]) → ∃ d ρ', ev (sigOf defs (k + 1)) (.prim (.bi .tuple) [.ex (.comp [4] (false, [4]) .rng [.var 2] [] (.prim (.bin .Sub) [.ex (.call "_law_pick" [.slot 0, .ex (.con (.int 7))]), .ex (.con (.int 3))]))]) (ρ.set 3 (some (.dat (.int (i : Int))))) = .ok (d, ρ') ∧ (∃ st, Good st ∧ ρ'.set 3 none = [some (.own st), some (.dat (.int n)), some (.dat (.int m)), none, none]) ∧ ∃ g : Nat → Int, d = .tup ((List.range m).map fun j => .int (g j)) ∧ ∀ j, j < m → (g j).natAbs < 4 := by
    intro i hi ρ ⟨st, hst, e⟩
    subst e
    obtain ⟨h, ρ', e, ⟨st', hst', e2⟩, hR⟩ := ev_cmpS (G := sigOf defs (k + 1)) (v := 4) (ies := [.var 2]) (elt := .prim (.bin .Sub) [.ex (.call "_law_pick" [.slot 0, .ex (.con (.int 7))]), .ex (.con (.int 3))]) (n := m) (ρ := [some (.own st), some (.dat (.int n)), some (.dat (.int m)), some (.dat (.int (i : Int))), none])
      (fun ρ => ∃ st, Good st ∧ ρ = [some (.own st), some (.dat (.int n)), some (.dat (.int m)), some (.dat (.int (i : Int))), none]) (fun _ d => ∃ z : Int, d = .int z ∧ z.natAbs < 4) (by omega) (by simp [opnds_nilS, opnds_consS, opnd_slot, opnd_ex, ev_var, ev_con, ev_prim, ev_dsp, ev_bop, ev_not, ev_ite, ev_isi, ev_callS, evs_nil, evs_cons, evC_nil, evC_cons, evB_one, evB_more, evT_bop, evT_not, evT_val, evo_var, evo_call', evo_dsp, evo_prim, evo_con, evo_bop, evo_not, evo_ite, evo_isi, getS_0, getS_s, rdAll, rdO, Slot.frz, primF, cmpF, truD, biF_lenT, biF_lenL, biF_tupT, biF_tupL, biF_listT, biF_listL, biF_intI, biF_intB, biF_absI, len_enc, len_row, natI, binF, freshP, isOwn, eqF_int, addI, subI, argS, backA, slotsOf, isiF]) ⟨st, hst, rfl⟩ (fun ρ ⟨_, _, e⟩ => by subst e; rfl) (fun j hj ρ ⟨st, hst, e⟩ => by
        subst e
        obtain ⟨d, st', e, g, d0, d1⟩ := ev_pick (k := k) fnd_pick (s := 0) (ρ := [some (.own st), some (.dat (.int n)), some (.dat (.int m)), some (.dat (.int (i : Int))), some (.dat (.int (j : Int)))]) rfl hst (m := 7) (by decide) (by decide)
        exact ⟨.int (d - 3), _, ev_bin2 e ev_con rfl, ⟨st', g, rfl⟩, d - 3, rfl, by omega⟩)
    subst e2
    have hx : ∀ j, ∃ z : Int, j < m → (h j = .int z ∧ z.natAbs < 4) := fun j => by
      by_cases c : j < m
      · obtain ⟨z, a, b⟩ := hR j c
        exact ⟨z, fun _ => ⟨a, b⟩⟩
      · exact ⟨0, fun z => absurd z c⟩
    obtain ⟨g, hg⟩ := Classical.axiomOfChoice hx
    have e3 : (List.range m).map h = (List.range m).map fun j => .int (g j) := List.map_congr_left fun j hj => (hg j (List.mem_range.mp hj)).1
    rw [e3] at e
    exact ⟨.tup ((List.range m).map fun j => .int (g j)), [some (.own st'), some (.dat (.int n)), some (.dat (.int m)), some (.dat (.int (i : Int))), none], ev_tupC e, ⟨st', hst', rfl⟩, g, rfl, fun j hj => (hg j hj).2⟩
  obtain ⟨h, ρ', e, ⟨st', hst', e2⟩, hR⟩ := ev_cmpS (G := sigOf defs (k + 1)) (v := 3) (ies := [.var 1]) (n := n) (ρ := [some (.own st), some (.dat (.int n)), some (.dat (.int m)), none, none])
    (fun ρ => ∃ st, Good st ∧ ρ = [some (.own st), some (.dat (.int n)), some (.dat (.int m)), none, none]) (fun _ d => ∃ g : Nat → Int, d = .tup ((List.range m).map fun j => .int (g j)) ∧ ∀ j, j < m → (g j).natAbs < 4) (by omega) (by simp [opnds_nilS, opnds_consS, opnd_slot, opnd_ex, ev_var, ev_con, ev_prim, ev_dsp, ev_bop, ev_not, ev_ite, ev_isi, ev_callS, evs_nil, evs_cons, evC_nil, evC_cons, evB_one, evB_more, evT_bop, evT_not, evT_val, evo_var, evo_call', evo_dsp, evo_prim, evo_con, evo_bop, evo_not, evo_ite, evo_isi, getS_0, getS_s, rdAll, rdO, Slot.frz, primF, cmpF, truD, biF_lenT, biF_lenL, biF_tupT, biF_tupL, biF_listT, biF_listL, biF_intI, biF_intB, biF_absI, len_enc, len_row, natI, binF, freshP, isOwn, eqF_int, addI, subI, argS, backA, slotsOf, isiF]) ⟨st, hst, rfl⟩ (fun ρ ⟨_, _, e⟩ => by subst e; rfl) inner
  subst e2
  have hx : ∀ i, ∃ g : Nat → Int, i < n → (h i = .tup ((List.range m).map fun j => .int (g j)) ∧ ∀ j, j < m → (g j).natAbs < 4) := fun i => by
    by_cases c : i < n
    · obtain ⟨z, a, b⟩ := hR i c
      exact ⟨z, fun _ => ⟨a, b⟩⟩
    · exact ⟨fun _ => 0, fun z => absurd z c⟩
  obtain ⟨g, hg⟩ := Classical.axiomOfChoice hx
  have e3 : .tup ((List.range n).map h) = enc n m (fun i j => if i < n ∧ j < m then g i j else 0) := by
    refine congrArg D.tup (List.map_congr_left fun i hi => ?_)
    rw [(hg i (List.mem_range.mp hi)).1]
    refine congrArg D.tup (List.map_congr_left fun j hj => ?_)
    exact congrArg D.int (if_pos ⟨List.mem_range.mp hi, List.mem_range.mp hj⟩).symm
  have et := ev_tupC e
  rw [e3] at et
  refine ⟨fun i j => if i < n ∧ j < m then g i j else 0, st', [some (.own st'), some (.dat (.int n)), some (.dat (.int m)), none, none], ?_, rfl, hst', fun i j => ?_, fun i j hij => if_neg (by omega)⟩
  · refine callD_own fnd_law_table (n := d_law_table.N.length - 3) (ρ' := [some (.own st'), some (.dat (.int n)), some (.dat (.int m)), none, none]) ⟨rfl, by decide⟩ rfl ?_ rfl
    obtain ⟨fl, ρ', a, b, c⟩ : WSs (sigOf defs (k + 1)) d_law_table.body [some (.own st), some (.dat (.int n)), some (.dat (.int m)), none, none] fun fl ρ' => fl = .ret (.dat (enc n m fun i j => if i < n ∧ j < m then g i j else 0)) ∧ ρ' = [some (.own st'), some (.dat (.int n)), some (.dat (.int m)), none, none] := ws_cons (ws_ret (evo_tab et) ⟨rfl, rfl⟩)
    subst b; subst c; exact a
  · show (if i < n ∧ j < m then g i j else 0).natAbs < 2 ^ 2
    by_cases c : i < n ∧ j < m
    · rw [if_pos c]; exact (hg i c.1).2 j c.2
    · rw [if_neg c]; decide
theorem ev_call_own3 {G : Sig} {f : Str} {ρ outs : PEnv} {s : Nat} {a b : E} {st st' : List D} {x y r : D} (hs : getS ρ s = some (.own st)) (ha : ev G a ρ = .ok (x, ρ)) (hb : ev G b ρ = .ok (y, ρ)) (h1 : callD G f [.own st, .dat x, .dat y] = .ok (.dat r, outs)) (h2 : getS outs 0 = some (.own st')) : ev G (.call f [.slot s, .ex a, .ex b]) ρ = .ok (r, ρ.set s (some (.own st'))) := by
  simp only [ev_callS, opnds_consS, opnd_slot, opnd_ex, hs, Out.bind_okS, ha, hb, opnds_nilS, argS, Option.map_some, Out.of_someS, h1, slotsOf, List.nodup_cons, List.nodup_nil, List.not_mem_nil, not_false_eq_true, and_self, if_true, backA, h2, Px.Slot.frz]
/-- drawing a table, from slot 1 -/
theorem ev_table {ρ : PEnv} {s a b : Nat} {st : List D} (hs : getS ρ s = some (.own st)) (hst : Good st) {n m : Nat} (hn : n ≤ 4) (hm : m ≤ 4) (ha : ev (sigOf defs (k + 2)) (.var a) ρ = .ok (.int n, ρ)) (hb : ev (sigOf defs (k + 2)) (.var b) ρ = .ok (.int m, ρ)) :
    ∃ (f : M) (st' : List D), ev (sigOf defs (k + 2)) (.call "_law_table" [.slot s, .ex (.var a), .ex (.var b)]) ρ = .ok (enc n m f, ρ.set s (some (.own st'))) ∧ Good st' ∧ Bd 2 f ∧ ∀ i j, n ≤ i ∨ m ≤ j → f i j = 0 := by
  obtain ⟨f, st', outs, h1, h2, h3, h4, h5⟩ := w_tab (k := k) hst hn hm
  exact ⟨f, st', ev_call_own3 hs ha hb h1 h2, h3, h4, h5⟩
theorem w_sq {n : Nat} {f : M} (hn : n ≤ 4) : callV (sigOf defs (k + 1)) "is_square" [enc n n f] = .ok (.dat (.bl true)) := by
  refine callV_run fnd_is_square ⟨rfl, by decide⟩ ?_
  show WSs _ d_is_square.body [some (.dat (enc n n f)), none, none] _
  refine ws_cons (ws_ite (t := false) (ρ1 := [some (.dat (enc n n f)), none, none]) (by simp [opnds_nilS, opnds_consS, opnd_slot, opnd_ex, ev_var, ev_con, ev_prim, ev_dsp, ev_bop, ev_not, ev_ite, ev_isi, ev_callS, evs_nil, evs_cons, evC_nil, evC_cons, evB_one, evB_more, evT_bop, evT_not, evT_val, evo_var, evo_call', evo_dsp, evo_prim, evo_con, evo_bop, evo_not, evo_ite, evo_isi, getS_0, getS_s, rdAll, rdO, Slot.frz, primF, cmpF, truD, biF_lenT, biF_lenL, biF_tupT, biF_tupL, biF_listT, biF_listL, biF_intI, biF_intB, biF_absI, len_enc, len_row, natI, binF, freshP, isOwn, eqF_int, addI, subI, argS, backA, slotsOf, isiF, enc]) (fun h => by cases h) (fun _ => ws_nil ?_))
  refine ws_cons (ws_loop (L := List.range n) (ds := [enc n n f]) (ρ1 := [some (.dat (enc n n f)), none, none]) (row n f) (fun xs ρ => ∃ y, ρ = [some (.dat (enc n n f)), y, none]) (by simp [opnds_nilS, opnds_consS, opnd_slot, opnd_ex, ev_var, ev_con, ev_prim, ev_dsp, ev_bop, ev_not, ev_ite, ev_isi, ev_callS, evs_nil, evs_cons, evC_nil, evC_cons, evB_one, evB_more, evT_bop, evT_not, evT_val, evo_var, evo_call', evo_dsp, evo_prim, evo_con, evo_bop, evo_not, evo_ite, evo_isi, getS_0, getS_s, rdAll, rdO, Slot.frz, primF, cmpF, truD, biF_lenT, biF_lenL, biF_tupT, biF_tupL, biF_listT, biF_listL, biF_intI, biF_intB, biF_absI, len_enc, len_row, natI, binF, freshP, isOwn, eqF_int, addI, subI, argS, backA, slotsOf, isiF]) rfl rfl ⟨none, rfl⟩ (fun x xs ρ h => ?_) (fun ρ h => ?_))
  · obtain ⟨y, rfl⟩ := h
    refine ⟨_, rfl, ?_⟩
    refine ws_cons (ws_ite (t := false) (ρ1 := [some (.dat (enc n n f)), some (.dat (row n f x)), none]) (by simp [opnds_nilS, opnds_consS, opnd_slot, opnd_ex, ev_var, ev_con, ev_prim, ev_dsp, ev_bop, ev_not, ev_ite, ev_isi, ev_callS, evs_nil, evs_cons, evC_nil, evC_cons, evB_one, evB_more, evT_bop, evT_not, evT_val, evo_var, evo_call', evo_dsp, evo_prim, evo_con, evo_bop, evo_not, evo_ite, evo_isi, getS_0, getS_s, rdAll, rdO, Slot.frz, primF, cmpF, truD, biF_lenT, biF_lenL, biF_tupT, biF_tupL, biF_listT, biF_listL, biF_intI, biF_intB, biF_absI, len_enc, len_row, natI, binF, freshP, isOwn, eqF_int, addI, subI, argS, backA, slotsOf, isiF, row]) (fun h => by cases h) (fun _ => ws_nil ?_))
    have ea := ev_allC (L := List.range n) (f := fun j => true) (ev_cmp1 (G := sigOf defs k) (v := 2) (ik := .seq) (ies := [.var 1]) (elt := .bop true [.isi (.slot 2) .int, .not (.isi (.slot 2) .bool)]) (ρ := [some (.dat (enc n n f)), some (.dat (row n f x)), none]) (ds := [row n f x]) (L := List.range n) (fun j => .int (f x j)) (fun j => .bl true) (by simp [opnds_nilS, opnds_consS, opnd_slot, opnd_ex, ev_var, ev_con, ev_prim, ev_dsp, ev_bop, ev_not, ev_ite, ev_isi, ev_callS, evs_nil, evs_cons, evC_nil, evC_cons, evB_one, evB_more, evT_bop, evT_not, evT_val, evo_var, evo_call', evo_dsp, evo_prim, evo_con, evo_bop, evo_not, evo_ite, evo_isi, getS_0, getS_s, rdAll, rdO, Slot.frz, primF, cmpF, truD, biF_lenT, biF_lenL, biF_tupT, biF_tupL, biF_listT, biF_listL, biF_intI, biF_intB, biF_absI, len_enc, len_row, natI, binF, freshP, isOwn, eqF_int, addI, subI, argS, backA, slotsOf, isiF]) rfl rfl (fun _ => rfl) (by rw [List.length_range]; exact lt_lim (by omega)) (fun j hj => by simp [opnds_nilS, opnds_consS, opnd_slot, opnd_ex, ev_var, ev_con, ev_prim, ev_dsp, ev_bop, ev_not, ev_ite, ev_isi, ev_callS, evs_nil, evs_cons, evC_nil, evC_cons, evB_one, evB_more, evT_bop, evT_not, evT_val, evo_var, evo_call', evo_dsp, evo_prim, evo_con, evo_bop, evo_not, evo_ite, evo_isi, getS_0, getS_s, rdAll, rdO, Slot.frz, primF, cmpF, truD, biF_lenT, biF_lenL, biF_tupT, biF_tupL, biF_listT, biF_listL, biF_intI, biF_intB, biF_absI, len_enc, len_row, natI, binF, freshP, isOwn, eqF_int, addI, subI, argS, backA, slotsOf, isiF]))
    refine ws_cons (ws_ite (t := false) (ρ1 := [some (.dat (enc n n f)), some (.dat (row n f x)), none]) ?_ (fun h => by cases h) (fun _ => ws_nil (ws_nil ⟨rfl, _, rfl⟩)))
    rw [evT_not, evT_val, opnd_ex, ea]
    simp [opnds_nilS, opnds_consS, opnd_slot, opnd_ex, ev_var, ev_con, ev_prim, ev_dsp, ev_bop, ev_not, ev_ite, ev_isi, ev_callS, evs_nil, evs_cons, evC_nil, evC_cons, evB_one, evB_more, evT_bop, evT_not, evT_val, evo_var, evo_call', evo_dsp, evo_prim, evo_con, evo_bop, evo_not, evo_ite, evo_isi, getS_0, getS_s, rdAll, rdO, Slot.frz, primF, cmpF, truD, biF_lenT, biF_lenL, biF_tupT, biF_tupL, biF_listT, biF_listL, biF_intI, biF_intB, biF_absI, len_enc, len_row, natI, binF, freshP, isOwn, eqF_int, addI, subI, argS, backA, slotsOf, isiF]
  · obtain ⟨y, rfl⟩ := h
    exact ws_cons (ws_ret (d := .dat (.bl true)) (ρ1 := [some (.dat (enc n n f)), y, none]) (by simp [opnds_nilS, opnds_consS, opnd_slot, opnd_ex, ev_var, ev_con, ev_prim, ev_dsp, ev_bop, ev_not, ev_ite, ev_isi, ev_callS, evs_nil, evs_cons, evC_nil, evC_cons, evB_one, evB_more, evT_bop, evT_not, evT_val, evo_var, evo_call', evo_dsp, evo_prim, evo_con, evo_bop, evo_not, evo_ite, evo_isi, getS_0, getS_s, rdAll, rdO, Slot.frz, primF, cmpF, truD, biF_lenT, biF_lenL, biF_tupT, biF_tupL, biF_listT, biF_listL, biF_intI, biF_intB, biF_absI, len_enc, len_row, natI, binF, freshP, isOwn, eqF_int, addI, subI, argS, backA, slotsOf, isiF]) rfl)
theorem nsq_first {x : D} {xs : List D} (h : WSs (sigOf defs k) [
    .ite (.bop false [.not (.val (.ex (.isi (.slot 1) .tuple))), .val (.ex (.prim (.cmp .NotEq) [.ex (.prim (.bi .len) [.slot 1]), .ex (.prim (.bi .len) [.slot 0])]))]) [
    .ret (.con (.bl false))] [],
    .ite (.not (.val (.ex (.prim (.bi .all) [.ex (.comp [2] (false, [2]) .seq [.var 1] [] (.bop true [.isi (.slot 2) .int, .not (.isi (.slot 2) .bool)]))])))) [
    .ret (.con (.bl false))] []] [some (.dat (.tup (x :: xs))), some (.dat x), none] fun fl _ => fl = .ret (.dat (.bl false))) : callV (sigOf defs (k + 1)) "is_square" [.tup (x :: xs)] = .ok (.dat (.bl false)) := by
  refine callV_run fnd_is_square ⟨rfl, by decide⟩ ?_
  show WSs _ d_is_square.body [some (.dat (.tup (x :: xs))), none, none] _
  refine ws_cons (ws_ite (t := false) (ρ1 := [some (.dat (.tup (x :: xs))), none, none]) (by simp [opnds_nilS, opnds_consS, opnd_slot, opnd_ex, ev_var, ev_con, ev_prim, ev_dsp, ev_bop, ev_not, ev_ite, ev_isi, ev_callS, evs_nil, evs_cons, evC_nil, evC_cons, evB_one, evB_more, evT_bop, evT_not, evT_val, evo_var, evo_call', evo_dsp, evo_prim, evo_con, evo_bop, evo_not, evo_ite, evo_isi, getS_0, getS_s, rdAll, rdO, Slot.frz, primF, cmpF, truD, biF_lenT, biF_lenL, biF_tupT, biF_tupL, biF_listT, biF_listL, biF_intI, biF_intB, biF_absI, len_enc, len_row, natI, binF, freshP, isOwn, eqF_int, addI, subI, argS, backA, slotsOf, isiF]) (fun h => by cases h) (fun _ => ws_nil ?_))
  refine ws_cons (ws_loop (L := x :: xs) (ds := [.tup (x :: xs)]) (ρ1 := [some (.dat (.tup (x :: xs))), none, none]) id (fun ys ρ => ys = x :: xs ∧ ρ = [some (.dat (.tup (x :: xs))), none, none]) (by simp [opnds_nilS, opnds_consS, opnd_slot, opnd_ex, ev_var, ev_con, ev_prim, ev_dsp, ev_bop, ev_not, ev_ite, ev_isi, ev_callS, evs_nil, evs_cons, evC_nil, evC_cons, evB_one, evB_more, evT_bop, evT_not, evT_val, evo_var, evo_call', evo_dsp, evo_prim, evo_con, evo_bop, evo_not, evo_ite, evo_isi, getS_0, getS_s, rdAll, rdO, Slot.frz, primF, cmpF, truD, biF_lenT, biF_lenL, biF_tupT, biF_tupL, biF_listT, biF_listL, biF_intI, biF_intB, biF_absI, len_enc, len_row, natI, binF, freshP, isOwn, eqF_int, addI, subI, argS, backA, slotsOf, isiF]) (by rw [List.map_id]; rfl) rfl ⟨rfl, rfl⟩ (fun y ys ρ hh => ?_) (fun ρ hh => by cases hh.1))
  obtain ⟨e, rfl⟩ := hh
  cases e
  obtain ⟨fl, ρ', h1, rfl⟩ := h
  exact ⟨_, rfl, _, _, h1, rfl, rfl⟩
theorem nsq_len {ys xs : List D} (h : ys.length ≠ xs.length + 1) : callV (sigOf defs (k + 1)) "is_square" [.tup (.tup ys :: xs)] = .ok (.dat (.bl false)) := by
  refine nsq_first (ws_cons (ws_ite (t := true) (ρ1 := [some (.dat (.tup (.tup ys :: xs))), some (.dat (.tup ys)), none]) ?_ (fun _ => ws_cons (ws_ret (d := .dat (.bl false)) (ρ1 := [some (.dat (.tup (.tup ys :: xs))), some (.dat (.tup ys)), none]) (by simp [opnds_nilS, opnds_consS, opnd_slot, opnd_ex, ev_var, ev_con, ev_prim, ev_dsp, ev_bop, ev_not, ev_ite, ev_isi, ev_callS, evs_nil, evs_cons, evC_nil, evC_cons, evB_one, evB_more, evT_bop, evT_not, evT_val, evo_var, evo_call', evo_dsp, evo_prim, evo_con, evo_bop, evo_not, evo_ite, evo_isi, getS_0, getS_s, rdAll, rdO, Slot.frz, primF, cmpF, truD, biF_lenT, biF_lenL, biF_tupT, biF_tupL, biF_listT, biF_listL, biF_intI, biF_intB, biF_absI, len_enc, len_row, natI, binF, freshP, isOwn, eqF_int, addI, subI, argS, backA, slotsOf, isiF]) rfl)) (fun h => by cases h)))
  have : eqF (.int (ys.length : Int)) (.int ((xs.length : Int) + 1)) = some false := by
    rw [eqF_int]
    have : ¬ (ys.length : Int) = (xs.length : Int) + 1 := by omega
    simp [this]
  have c : ¬ (ys.length : Int) = (xs.length : Int) + 1 := by omega
  simp [opnds_nilS, opnds_consS, opnd_slot, opnd_ex, ev_var, ev_con, ev_prim, ev_dsp, ev_bop, ev_not, ev_ite, ev_isi, ev_callS, evs_nil, evs_cons, evC_nil, evC_cons, evB_one, evB_more, evT_bop, evT_not, evT_val, evo_var, evo_call', evo_dsp, evo_prim, evo_con, evo_bop, evo_not, evo_ite, evo_isi, getS_0, getS_s, rdAll, rdO, Slot.frz, primF, cmpF, truD, biF_lenT, biF_lenL, biF_tupT, biF_tupL, biF_listT, biF_listL, biF_intI, biF_intB, biF_absI, len_enc, len_row, natI, binF, freshP, isOwn, eqF_int, addI, subI, argS, backA, slotsOf, isiF, c]
theorem nsq_lst {x : List D} {xs : List D} : callV (sigOf defs (k + 1)) "is_square" [.tup (.lst x :: xs)] = .ok (.dat (.bl false)) := by
  exact nsq_first (ws_cons (ws_ite (t := true) (ρ1 := [some (.dat (.tup (.lst x :: xs))), some (.dat (.lst x)), none]) (by simp [opnds_nilS, opnds_consS, opnd_slot, opnd_ex, ev_var, ev_con, ev_prim, ev_dsp, ev_bop, ev_not, ev_ite, ev_isi, ev_callS, evs_nil, evs_cons, evC_nil, evC_cons, evB_one, evB_more, evT_bop, evT_not, evT_val, evo_var, evo_call', evo_dsp, evo_prim, evo_con, evo_bop, evo_not, evo_ite, evo_isi, getS_0, getS_s, rdAll, rdO, Slot.frz, primF, cmpF, truD, biF_lenT, biF_lenL, biF_tupT, biF_tupL, biF_listT, biF_listL, biF_intI, biF_intB, biF_absI, len_enc, len_row, natI, binF, freshP, isOwn, eqF_int, addI, subI, argS, backA, slotsOf, isiF]) (fun _ => ws_cons (ws_ret (d := .dat (.bl false)) (ρ1 := [some (.dat (.tup (.lst x :: xs))), some (.dat (.lst x)), none]) (by simp [opnds_nilS, opnds_consS, opnd_slot, opnd_ex, ev_var, ev_con, ev_prim, ev_dsp, ev_bop, ev_not, ev_ite, ev_isi, ev_callS, evs_nil, evs_cons, evC_nil, evC_cons, evB_one, evB_more, evT_bop, evT_not, evT_val, evo_var, evo_call', evo_dsp, evo_prim, evo_con, evo_bop, evo_not, evo_ite, evo_isi, getS_0, getS_s, rdAll, rdO, Slot.frz, primF, cmpF, truD, biF_lenT, biF_lenL, biF_tupT, biF_tupL, biF_listT, biF_listL, biF_intI, biF_intB, biF_absI, len_enc, len_row, natI, binF, freshP, isOwn, eqF_int, addI, subI, argS, backA, slotsOf, isiF]) rfl)) (fun h => by cases h)))
theorem nsq_bl : callV (sigOf defs (k + 1)) "is_square" [.tup [.tup [.bl true]]] = .ok (.dat (.bl false)) := by
  refine nsq_first (ws_cons (ws_ite (t := false) (ρ1 := [some (.dat (.tup [.tup [.bl true]])), some (.dat (.tup [.bl true])), none]) (by simp [opnds_nilS, opnds_consS, opnd_slot, opnd_ex, ev_var, ev_con, ev_prim, ev_dsp, ev_bop, ev_not, ev_ite, ev_isi, ev_callS, evs_nil, evs_cons, evC_nil, evC_cons, evB_one, evB_more, evT_bop, evT_not, evT_val, evo_var, evo_call', evo_dsp, evo_prim, evo_con, evo_bop, evo_not, evo_ite, evo_isi, getS_0, getS_s, rdAll, rdO, Slot.frz, primF, cmpF, truD, biF_lenT, biF_lenL, biF_tupT, biF_tupL, biF_listT, biF_listL, biF_intI, biF_intB, biF_absI, len_enc, len_row, natI, binF, freshP, isOwn, eqF_int, addI, subI, argS, backA, slotsOf, isiF]) (fun h => by cases h) (fun _ => ws_nil ?_)))
  have ea := ev_allC (L := [()]) (f := fun j => false) (ev_cmp1 (G := sigOf defs k) (v := 2) (ik := .seq) (ies := [.var 1]) (elt := .bop true [.isi (.slot 2) .int, .not (.isi (.slot 2) .bool)]) (ρ := [some (.dat (.tup [.tup [.bl true]])), some (.dat (.tup [.bl true])), none]) (ds := [.tup [.bl true]]) (L := [()]) (fun j => .bl true) (fun j => .bl false) (by simp [opnds_nilS, opnds_consS, opnd_slot, opnd_ex, ev_var, ev_con, ev_prim, ev_dsp, ev_bop, ev_not, ev_ite, ev_isi, ev_callS, evs_nil, evs_cons, evC_nil, evC_cons, evB_one, evB_more, evT_bop, evT_not, evT_val, evo_var, evo_call', evo_dsp, evo_prim, evo_con, evo_bop, evo_not, evo_ite, evo_isi, getS_0, getS_s, rdAll, rdO, Slot.frz, primF, cmpF, truD, biF_lenT, biF_lenL, biF_tupT, biF_tupL, biF_listT, biF_listL, biF_intI, biF_intB, biF_absI, len_enc, len_row, natI, binF, freshP, isOwn, eqF_int, addI, subI, argS, backA, slotsOf, isiF]) rfl rfl (fun _ => rfl) (lt_lim (by decide)) (fun j hj => by simp [opnds_nilS, opnds_consS, opnd_slot, opnd_ex, ev_var, ev_con, ev_prim, ev_dsp, ev_bop, ev_not, ev_ite, ev_isi, ev_callS, evs_nil, evs_cons, evC_nil, evC_cons, evB_one, evB_more, evT_bop, evT_not, evT_val, evo_var, evo_call', evo_dsp, evo_prim, evo_con, evo_bop, evo_not, evo_ite, evo_isi, getS_0, getS_s, rdAll, rdO, Slot.frz, primF, cmpF, truD, biF_lenT, biF_lenL, biF_tupT, biF_tupL, biF_listT, biF_listL, biF_intI, biF_intB, biF_absI, len_enc, len_row, natI, binF, freshP, isOwn, eqF_int, addI, subI, argS, backA, slotsOf, isiF]))
  refine ws_cons (ws_ite (t := true) (ρ1 := [some (.dat (.tup [.tup [.bl true]])), some (.dat (.tup [.bl true])), none]) ?_ (fun _ => ws_cons (ws_ret (d := .dat (.bl false)) (ρ1 := [some (.dat (.tup [.tup [.bl true]])), some (.dat (.tup [.bl true])), none]) (by simp [opnds_nilS, opnds_consS, opnd_slot, opnd_ex, ev_var, ev_con, ev_prim, ev_dsp, ev_bop, ev_not, ev_ite, ev_isi, ev_callS, evs_nil, evs_cons, evC_nil, evC_cons, evB_one, evB_more, evT_bop, evT_not, evT_val, evo_var, evo_call', evo_dsp, evo_prim, evo_con, evo_bop, evo_not, evo_ite, evo_isi, getS_0, getS_s, rdAll, rdO, Slot.frz, primF, cmpF, truD, biF_lenT, biF_lenL, biF_tupT, biF_tupL, biF_listT, biF_listL, biF_intI, biF_intB, biF_absI, len_enc, len_row, natI, binF, freshP, isOwn, eqF_int, addI, subI, argS, backA, slotsOf, isiF]) rfl)) (fun h => by cases h))
  rw [evT_not, evT_val, opnd_ex, ea]
  simp [opnds_nilS, opnds_consS, opnd_slot, opnd_ex, ev_var, ev_con, ev_prim, ev_dsp, ev_bop, ev_not, ev_ite, ev_isi, ev_callS, evs_nil, evs_cons, evC_nil, evC_cons, evB_one, evB_more, evT_bop, evT_not, evT_val, evo_var, evo_call', evo_dsp, evo_prim, evo_con, evo_bop, evo_not, evo_ite, evo_isi, getS_0, getS_s, rdAll, rdO, Slot.frz, primF, cmpF, truD, biF_lenT, biF_lenL, biF_tupT, biF_tupL, biF_listT, biF_listL, biF_intI, biF_intB, biF_absI, len_enc, len_row, natI, binF, freshP, isOwn, eqF_int, addI, subI, argS, backA, slotsOf, isiF]
theorem nsq_no {d : D} (h : isiF d .tuple = false) : callV (sigOf defs (k + 1)) "is_square" [d] = .ok (.dat (.bl false)) := by
  refine callV_run fnd_is_square ⟨rfl, by decide⟩ ?_
  show WSs _ d_is_square.body [some (.dat d), none, none] _
  refine ws_cons (ws_ite (t := true) (ρ1 := [some (.dat d), none, none]) ?_ (fun _ => ws_cons (ws_ret (d := .dat (.bl false)) (ρ1 := [some (.dat d), none, none]) (by simp [opnds_nilS, opnds_consS, opnd_slot, opnd_ex, ev_var, ev_con, ev_prim, ev_dsp, ev_bop, ev_not, ev_ite, ev_isi, ev_callS, evs_nil, evs_cons, evC_nil, evC_cons, evB_one, evB_more, evT_bop, evT_not, evT_val, evo_var, evo_call', evo_dsp, evo_prim, evo_con, evo_bop, evo_not, evo_ite, evo_isi, getS_0, getS_s, rdAll, rdO, Slot.frz, primF, cmpF, truD, biF_lenT, biF_lenL, biF_tupT, biF_tupL, biF_listT, biF_listL, biF_intI, biF_intB, biF_absI, len_enc, len_row, natI, binF, freshP, isOwn, eqF_int, addI, subI, argS, backA, slotsOf, isiF]) rfl)) (fun h => by cases h))
  rw [evT_not, evT_val, opnd_ex, ev_isi]
  simp only [opnd_slot, getS_0, Out.bind_okS, rdO, Px.Slot.frz, Out.of_someS, h, truD]; rfl
end

end LW

set_option Elab.async false
set_option linter.all false
set_option maxRecDepth 100000
set_option maxHeartbeats 2000000
namespace LW
open PySem L2 Px Py KM

def QT : Flw → PEnv → Prop := fun fl _ => fl = .ret (.dat (.bl true))
theorem t_same {k m : Nat} {e1 e2 : E} {ρ : PEnv} {d : D} (h1 : ev (sigOf defs (k + 4)) e1 ρ = .ok (d, ρ)) (h2 : ev (sigOf defs (k + 4)) e2 ρ = .ok (d, ρ)) (hp : Pl m d) (hm : m ≤ 4) : evT (sigOf defs (k + 4)) (.not (.val (.ex (.call "_law_same" [.ex e1, .ex e2])))) ρ = .ok (false, ρ) := by
  have hc := same_refl fnd_same m (k + 4) d (by omega) hp
  have e := ev_call2 h1 h2 hc
  rw [evT_not, evT_val, opnd_ex, e]
  simp only [Out.bind_okS, rdO, Out.of_someS, truD, Bool.not_true]
theorem or2 {G : Sig} {t1 t2 : T} {ρ : PEnv} (h1 : evT G t1 ρ = .ok (false, ρ)) (h2 : evT G t2 ρ = .ok (false, ρ)) : evT G (.bop false [t1, t2]) ρ = .ok (false, ρ) := by
  rw [evT_bop, evC_cons, h1, Out.bind_okS, if_pos rfl, evC_cons, h2, Out.bind_okS, if_pos rfl, evC_nil]
theorem or3 {G : Sig} {t1 t2 t3 : T} {ρ : PEnv} (h1 : evT G t1 ρ = .ok (false, ρ)) (h2 : evT G t2 ρ = .ok (false, ρ)) (h3 : evT G t3 ρ = .ok (false, ρ)) : evT G (.bop false [t1, t2, t3]) ρ = .ok (false, ρ) := by
  rw [evT_bop, evC_cons, h1, Out.bind_okS, if_pos rfl, evC_cons, h2, Out.bind_okS, if_pos rfl, evC_cons, h3, Out.bind_okS, if_pos rfl, evC_nil]
theorem t_ne {G : Sig} {e1 e2 : E} {ρ : PEnv} {d : D} {n : Nat} (h1 : ev G e1 ρ = .ok (d, ρ)) (h2 : ev G e2 ρ = .ok (d, ρ)) (hp : Pl n d) (hn : n ≤ 64) : evT G (.val (.ex (.prim (.cmp .NotEq) [.ex e1, .ex e2]))) ρ = .ok (false, ρ) := by
  rw [evT_val, opnd_ex, ev_prim, opnds_consS, opnd_ex, h1, Out.bind_okS, Out.bind_okS, opnds_consS, opnd_ex, h2]
  simp only [Out.bind_okS, opnds_nilS, rdAll, rdO, Out.of_someS, primF, cmpF, eqF_refl hp hn, Option.map_some, truD, Bool.not_true]
theorem w_start {k : Nat} {d : D} : callV (sigOf defs (k + 1)) "_law_start" [d] = .ok (.own [d, .int 0, .int 0, .int 7]) := by
  refine callV_run fnd_law_start ⟨rfl, by decide⟩ ?_
  show WSs _ d_law_start.body [some (.dat d)] _
  refine ws_cons (ws_ret (d := .own [d, .int 0, .int 0, .int 7]) (ρ1 := [some (.dat d)]) ?_ rfl)
  have : (4 : Nat) ≤ lim := Nat.le_of_lt (lt_lim (by decide))
  rw [evo_dsp]
  simp only [evs_cons, ev_var, getS_0, Out.bind_okS, ev_con, evs_nil]
  exact if_pos this

section
variable {k : Nat}
/-- from the unit on -/
theorem law_5 {sc : D} {st : List D} {n : Nat} {A B : M} (hst : Good st) (hn : n ≤ 4) (hA : Sup n A) (hA2 : Bd 2 A) (hB2 : Bd 2 B)
    (next : ∀ st, Good st → WSs (sigOf defs (k + 8)) (d_law.body.drop 7) [some (.dat sc), some (.own st), some (.dat (.int n)), some (.dat (enc n n A)), some (.dat (enc n n B)), some (.dat (enc n n (one n))), none, none, none, none, none, none, none, none, none, none, none, none, none, none, none, none, none, none, none, none] QT) : WSs (sigOf defs (k + 8)) (d_law.body.drop 5) [some (.dat sc), some (.own st), some (.dat (.int n)), some (.dat (enc n n A)), some (.dat (enc n n B)), none, none, none, none, none, none, none, none, none, none, none, none, none, none, none, none, none, none, none, none, none] QT := by
  have T1 := w_times (k := k + 7) hn hn hn id hA2 hB2 (by decide) (by decide) (by decide)
  have T2 := w_prodL (k := k + 7) hn hn hn hA2 hB2 (by decide) (by decide) (by decide)
  refine ws_cons (ws_set (ev_tab (ρ := [some (.dat sc), some (.own st), some (.dat (.int n)), some (.dat (enc n n A)), some (.dat (enc n n B)), none, none, none, none, none, none, none, none, none, none, none, none, none, none, none, none, none, none, none, none, none]) (n := n) (m := n) (one n) (lt_lim (by omega)) (lt_lim (by omega)) rfl (fun _ => rfl) ?_ (fun i hi => ?_) (fun i hi j hj => ?_)) ?_)
  · simp [opnds_nilS, opnds_consS, opnd_slot, opnd_ex, ev_var, ev_con, ev_prim, ev_dsp, ev_bop, ev_not, ev_ite, ev_isi, ev_callS, evs_nil, evs_cons, evC_nil, evC_cons, evB_one, evB_more, evT_bop, evT_not, evT_val, evo_var, evo_call', evo_dsp, evo_prim, evo_con, evo_bop, evo_not, evo_ite, evo_isi, getS_0, getS_s, rdAll, rdO, Slot.frz, primF, cmpF, truD, biF_lenT, biF_lenL, biF_tupT, biF_tupL, biF_listT, biF_listL, biF_intI, biF_intB, biF_absI, len_enc, len_row, natI, binF, freshP, isOwn, eqF_int, addI, subI, argS, backA, slotsOf, isiF]
  · simp [opnds_nilS, opnds_consS, opnd_slot, opnd_ex, ev_var, ev_con, ev_prim, ev_dsp, ev_bop, ev_not, ev_ite, ev_isi, ev_callS, evs_nil, evs_cons, evC_nil, evC_cons, evB_one, evB_more, evT_bop, evT_not, evT_val, evo_var, evo_call', evo_dsp, evo_prim, evo_con, evo_bop, evo_not, evo_ite, evo_isi, getS_0, getS_s, rdAll, rdO, Slot.frz, primF, cmpF, truD, biF_lenT, biF_lenL, biF_tupT, biF_tupL, biF_listT, biF_listL, biF_intI, biF_intB, biF_absI, len_enc, len_row, natI, binF, freshP, isOwn, eqF_int, addI, subI, argS, backA, slotsOf, isiF]
  · simp [opnds_nilS, opnds_consS, opnd_slot, opnd_ex, ev_var, ev_con, ev_prim, ev_dsp, ev_bop, ev_not, ev_ite, ev_isi, ev_callS, evs_nil, evs_cons, evC_nil, evC_cons, evB_one, evB_more, evT_bop, evT_not, evT_val, evo_var, evo_call', evo_dsp, evo_prim, evo_con, evo_bop, evo_not, evo_ite, evo_isi, getS_0, getS_s, rdAll, rdO, Slot.frz, primF, cmpF, truD, biF_lenT, biF_lenL, biF_tupT, biF_tupL, biF_listT, biF_listL, biF_intI, biF_intB, biF_absI, len_enc, len_row, natI, binF, freshP, isOwn, eqF_int, addI, subI, argS, backA, slotsOf, isiF, one, hi]
  refine ws_cons (ws_ite (t := false) (ρ1 := [some (.dat sc), some (.own st), some (.dat (.int n)), some (.dat (enc n n A)), some (.dat (enc n n B)), some (.dat (enc n n (one n))), none, none, none, none, none, none, none, none, none, none, none, none, none, none, none, none, none, none, none, none]) (or2 (t_same (d := enc n n (one n)) (ev_call1 (d := .int n) ?_ (w_unit hn)) ?_ (pl_enc (lt_lim (by omega)) (lt_lim (by omega))) (by decide)) (t_same (d := enc n n (mul n A B)) (ev_call2 (d := enc n n A) (d' := enc n n B) (ρ1 := [some (.dat sc), some (.own st), some (.dat (.int n)), some (.dat (enc n n A)), some (.dat (enc n n B)), some (.dat (enc n n (one n))), none, none, none, none, none, none, none, none, none, none, none, none, none, none, none, none, none, none, none, none]) ?_ ?_ T1) (ev_call3 (d := enc n n A) (d' := enc n n B) (d'' := .int n) (ρ1 := [some (.dat sc), some (.own st), some (.dat (.int n)), some (.dat (enc n n A)), some (.dat (enc n n B)), some (.dat (enc n n (one n))), none, none, none, none, none, none, none, none, none, none, none, none, none, none, none, none, none, none, none, none]) (ρ2 := [some (.dat sc), some (.own st), some (.dat (.int n)), some (.dat (enc n n A)), some (.dat (enc n n B)), some (.dat (enc n n (one n))), none, none, none, none, none, none, none, none, none, none, none, none, none, none, none, none, none, none, none, none]) ?_ ?_ ?_ T2) (pl_enc (lt_lim (by omega)) (lt_lim (by omega))) (by decide))) (fun h => by cases h) (fun _ => ws_nil (next st hst)))
  · simp [opnds_nilS, opnds_consS, opnd_slot, opnd_ex, ev_var, ev_con, ev_prim, ev_dsp, ev_bop, ev_not, ev_ite, ev_isi, ev_callS, evs_nil, evs_cons, evC_nil, evC_cons, evB_one, evB_more, evT_bop, evT_not, evT_val, evo_var, evo_call', evo_dsp, evo_prim, evo_con, evo_bop, evo_not, evo_ite, evo_isi, getS_0, getS_s, rdAll, rdO, Slot.frz, primF, cmpF, truD, biF_lenT, biF_lenL, biF_tupT, biF_tupL, biF_listT, biF_listL, biF_intI, biF_intB, biF_absI, len_enc, len_row, natI, binF, freshP, isOwn, eqF_int, addI, subI, argS, backA, slotsOf, isiF]
  · simp [opnds_nilS, opnds_consS, opnd_slot, opnd_ex, ev_var, ev_con, ev_prim, ev_dsp, ev_bop, ev_not, ev_ite, ev_isi, ev_callS, evs_nil, evs_cons, evC_nil, evC_cons, evB_one, evB_more, evT_bop, evT_not, evT_val, evo_var, evo_call', evo_dsp, evo_prim, evo_con, evo_bop, evo_not, evo_ite, evo_isi, getS_0, getS_s, rdAll, rdO, Slot.frz, primF, cmpF, truD, biF_lenT, biF_lenL, biF_tupT, biF_tupL, biF_listT, biF_listL, biF_intI, biF_intB, biF_absI, len_enc, len_row, natI, binF, freshP, isOwn, eqF_int, addI, subI, argS, backA, slotsOf, isiF]
  · simp [opnds_nilS, opnds_consS, opnd_slot, opnd_ex, ev_var, ev_con, ev_prim, ev_dsp, ev_bop, ev_not, ev_ite, ev_isi, ev_callS, evs_nil, evs_cons, evC_nil, evC_cons, evB_one, evB_more, evT_bop, evT_not, evT_val, evo_var, evo_call', evo_dsp, evo_prim, evo_con, evo_bop, evo_not, evo_ite, evo_isi, getS_0, getS_s, rdAll, rdO, Slot.frz, primF, cmpF, truD, biF_lenT, biF_lenL, biF_tupT, biF_tupL, biF_listT, biF_listL, biF_intI, biF_intB, biF_absI, len_enc, len_row, natI, binF, freshP, isOwn, eqF_int, addI, subI, argS, backA, slotsOf, isiF]
  · simp [opnds_nilS, opnds_consS, opnd_slot, opnd_ex, ev_var, ev_con, ev_prim, ev_dsp, ev_bop, ev_not, ev_ite, ev_isi, ev_callS, evs_nil, evs_cons, evC_nil, evC_cons, evB_one, evB_more, evT_bop, evT_not, evT_val, evo_var, evo_call', evo_dsp, evo_prim, evo_con, evo_bop, evo_not, evo_ite, evo_isi, getS_0, getS_s, rdAll, rdO, Slot.frz, primF, cmpF, truD, biF_lenT, biF_lenL, biF_tupT, biF_tupL, biF_listT, biF_listL, biF_intI, biF_intB, biF_absI, len_enc, len_row, natI, binF, freshP, isOwn, eqF_int, addI, subI, argS, backA, slotsOf, isiF]
  · simp [opnds_nilS, opnds_consS, opnd_slot, opnd_ex, ev_var, ev_con, ev_prim, ev_dsp, ev_bop, ev_not, ev_ite, ev_isi, ev_callS, evs_nil, evs_cons, evC_nil, evC_cons, evB_one, evB_more, evT_bop, evT_not, evT_val, evo_var, evo_call', evo_dsp, evo_prim, evo_con, evo_bop, evo_not, evo_ite, evo_isi, getS_0, getS_s, rdAll, rdO, Slot.frz, primF, cmpF, truD, biF_lenT, biF_lenL, biF_tupT, biF_tupL, biF_listT, biF_listL, biF_intI, biF_intB, biF_absI, len_enc, len_row, natI, binF, freshP, isOwn, eqF_int, addI, subI, argS, backA, slotsOf, isiF]
  · simp [opnds_nilS, opnds_consS, opnd_slot, opnd_ex, ev_var, ev_con, ev_prim, ev_dsp, ev_bop, ev_not, ev_ite, ev_isi, ev_callS, evs_nil, evs_cons, evC_nil, evC_cons, evB_one, evB_more, evT_bop, evT_not, evT_val, evo_var, evo_call', evo_dsp, evo_prim, evo_con, evo_bop, evo_not, evo_ite, evo_isi, getS_0, getS_s, rdAll, rdO, Slot.frz, primF, cmpF, truD, biF_lenT, biF_lenL, biF_tupT, biF_tupL, biF_listT, biF_listL, biF_intI, biF_intB, biF_absI, len_enc, len_row, natI, binF, freshP, isOwn, eqF_int, addI, subI, argS, backA, slotsOf, isiF]
  · simp [opnds_nilS, opnds_consS, opnd_slot, opnd_ex, ev_var, ev_con, ev_prim, ev_dsp, ev_bop, ev_not, ev_ite, ev_isi, ev_callS, evs_nil, evs_cons, evC_nil, evC_cons, evB_one, evB_more, evT_bop, evT_not, evT_val, evo_var, evo_call', evo_dsp, evo_prim, evo_con, evo_bop, evo_not, evo_ite, evo_isi, getS_0, getS_s, rdAll, rdO, Slot.frz, primF, cmpF, truD, biF_lenT, biF_lenL, biF_tupT, biF_tupL, biF_listT, biF_listL, biF_intI, biF_intB, biF_absI, len_enc, len_row, natI, binF, freshP, isOwn, eqF_int, addI, subI, argS, backA, slotsOf, isiF]
theorem ev_add1 {G : Sig} {ρ ρ1 : PEnv} {e : E} {d : Int} (h : ev G e ρ = .ok (.int d, ρ1)) : ev G (.prim (.bin .Add) [.ex (.con (.int 1)), .ex e]) ρ = .ok (.int (1 + d), ρ1) := ev_bin2 ev_con h rfl
theorem ev_subc {G : Sig} {ρ ρ1 : PEnv} {e : E} {d c : Int} (h : ev G e ρ = .ok (.int d, ρ1)) : ev G (.prim (.bin .Sub) [.ex e, .ex (.con (.int c))]) ρ = .ok (.int (d - c), ρ1) := ev_bin2 h ev_con rfl
/-- from the wide ones on -/
theorem law_7 {sc : D} {st : List D} {n : Nat} {A B : M} (hst : Good st) (hn : n ≤ 4)
    (next : ∀ st w t F F2 c, Good st → (c : Int).natAbs < 2 ^ 3 → WSs (sigOf defs (k + 8)) (d_law.body.drop 13) [some (.dat sc), some (.own st), some (.dat (.int n)), some (.dat (enc n n A)), some (.dat (enc n n B)), some (.dat (enc n n (one n))), some (.dat (.int (w : Nat))), some (.dat (.int (t : Nat))), some (.dat (enc w t F)), some (.dat (enc t w F2)), some (.dat (.int c)), none, none, none, none, none, none, none, none, none, none, none, none, none, none, none] QT) : WSs (sigOf defs (k + 8)) (d_law.body.drop 7) [some (.dat sc), some (.own st), some (.dat (.int n)), some (.dat (enc n n A)), some (.dat (enc n n B)), some (.dat (enc n n (one n))), none, none, none, none, none, none, none, none, none, none, none, none, none, none, none, none, none, none, none, none] QT := by
  obtain ⟨d, st1, p1, g1, l1, u1⟩ := ev_pick (k := k + 7) fnd_pick (s := 1) (ρ := [some (.dat sc), some (.own st), some (.dat (.int n)), some (.dat (enc n n A)), some (.dat (enc n n B)), some (.dat (enc n n (one n))), none, none, none, none, none, none, none, none, none, none, none, none, none, none, none, none, none, none, none, none]) rfl hst (m := 3) (by decide) (by decide)
  obtain ⟨w, hw⟩ : ∃ w : Nat, 1 + d = (w : Int) := ⟨(1 + d).toNat, by omega⟩
  have a1 := ev_add1 p1
  rw [hw] at a1
  refine ws_cons (ws_set a1 ?_)
  clear p1 a1 hst
  generalize st1 = st at *
  obtain ⟨d', st2, p2, g2, l2, u2⟩ := ev_pick (k := k + 7) fnd_pick (s := 1) (ρ := [some (.dat sc), some (.own st), some (.dat (.int n)), some (.dat (enc n n A)), some (.dat (enc n n B)), some (.dat (enc n n (one n))), some (.dat (.int (w : Nat))), none, none, none, none, none, none, none, none, none, none, none, none, none, none, none, none, none, none, none]) rfl g1 (m := 3) (by decide) (by decide)
  obtain ⟨t, ht⟩ : ∃ t : Nat, 1 + d' = (t : Int) := ⟨(1 + d').toNat, by omega⟩
  have a2 := ev_add1 p2
  rw [ht] at a2
  refine ws_cons (ws_set a2 ?_)
  clear p2 a2 g1
  generalize st2 = st at *
  obtain ⟨F, st3, p3, g3, bF, sF⟩ := ev_table (k := k + 6) (s := 1) (a := 6) (b := 7) (ρ := [some (.dat sc), some (.own st), some (.dat (.int n)), some (.dat (enc n n A)), some (.dat (enc n n B)), some (.dat (enc n n (one n))), some (.dat (.int (w : Nat))), some (.dat (.int (t : Nat))), none, none, none, none, none, none, none, none, none, none, none, none, none, none, none, none, none, none]) rfl g2 (n := w) (m := t) (by omega) (by omega) (by simp [opnds_nilS, opnds_consS, opnd_slot, opnd_ex, ev_var, ev_con, ev_prim, ev_dsp, ev_bop, ev_not, ev_ite, ev_isi, ev_callS, evs_nil, evs_cons, evC_nil, evC_cons, evB_one, evB_more, evT_bop, evT_not, evT_val, evo_var, evo_call', evo_dsp, evo_prim, evo_con, evo_bop, evo_not, evo_ite, evo_isi, getS_0, getS_s, rdAll, rdO, Slot.frz, primF, cmpF, truD, biF_lenT, biF_lenL, biF_tupT, biF_tupL, biF_listT, biF_listL, biF_intI, biF_intB, biF_absI, len_enc, len_row, natI, binF, freshP, isOwn, eqF_int, addI, subI, argS, backA, slotsOf, isiF]) (by simp [opnds_nilS, opnds_consS, opnd_slot, opnd_ex, ev_var, ev_con, ev_prim, ev_dsp, ev_bop, ev_not, ev_ite, ev_isi, ev_callS, evs_nil, evs_cons, evC_nil, evC_cons, evB_one, evB_more, evT_bop, evT_not, evT_val, evo_var, evo_call', evo_dsp, evo_prim, evo_con, evo_bop, evo_not, evo_ite, evo_isi, getS_0, getS_s, rdAll, rdO, Slot.frz, primF, cmpF, truD, biF_lenT, biF_lenL, biF_tupT, biF_tupL, biF_listT, biF_listL, biF_intI, biF_intB, biF_absI, len_enc, len_row, natI, binF, freshP, isOwn, eqF_int, addI, subI, argS, backA, slotsOf, isiF])
  refine ws_cons (ws_set p3 ?_)
  clear p3 g2
  generalize st3 = st at *
  obtain ⟨F2, st4, p4, g4, bF2, sF2⟩ := ev_table (k := k + 6) (s := 1) (a := 7) (b := 6) (ρ := [some (.dat sc), some (.own st), some (.dat (.int n)), some (.dat (enc n n A)), some (.dat (enc n n B)), some (.dat (enc n n (one n))), some (.dat (.int (w : Nat))), some (.dat (.int (t : Nat))), some (.dat (enc w t F)), none, none, none, none, none, none, none, none, none, none, none, none, none, none, none, none, none]) rfl g3 (n := t) (m := w) (by omega) (by omega) (by simp [opnds_nilS, opnds_consS, opnd_slot, opnd_ex, ev_var, ev_con, ev_prim, ev_dsp, ev_bop, ev_not, ev_ite, ev_isi, ev_callS, evs_nil, evs_cons, evC_nil, evC_cons, evB_one, evB_more, evT_bop, evT_not, evT_val, evo_var, evo_call', evo_dsp, evo_prim, evo_con, evo_bop, evo_not, evo_ite, evo_isi, getS_0, getS_s, rdAll, rdO, Slot.frz, primF, cmpF, truD, biF_lenT, biF_lenL, biF_tupT, biF_tupL, biF_listT, biF_listL, biF_intI, biF_intB, biF_absI, len_enc, len_row, natI, binF, freshP, isOwn, eqF_int, addI, subI, argS, backA, slotsOf, isiF]) (by simp [opnds_nilS, opnds_consS, opnd_slot, opnd_ex, ev_var, ev_con, ev_prim, ev_dsp, ev_bop, ev_not, ev_ite, ev_isi, ev_callS, evs_nil, evs_cons, evC_nil, evC_cons, evB_one, evB_more, evT_bop, evT_not, evT_val, evo_var, evo_call', evo_dsp, evo_prim, evo_con, evo_bop, evo_not, evo_ite, evo_isi, getS_0, getS_s, rdAll, rdO, Slot.frz, primF, cmpF, truD, biF_lenT, biF_lenL, biF_tupT, biF_tupL, biF_listT, biF_listL, biF_intI, biF_intB, biF_absI, len_enc, len_row, natI, binF, freshP, isOwn, eqF_int, addI, subI, argS, backA, slotsOf, isiF])
  refine ws_cons (ws_set p4 ?_)
  clear p4 g3
  generalize st4 = st at *
  have T1 := w_times (k := k + 7) (n := w) (p := t) (m := w) (by omega) (by omega) (by omega) (by omega) bF bF2 (by decide) (by decide) (by decide)
  have T2 := w_prodL (k := k + 7) (n := w) (p := t) (m := w) (by omega) (by omega) (by omega) bF bF2 (by decide) (by decide) (by decide)
  refine ws_cons (ws_ite (t := false) (ρ1 := [some (.dat sc), some (.own st), some (.dat (.int n)), some (.dat (enc n n A)), some (.dat (enc n n B)), some (.dat (enc n n (one n))), some (.dat (.int (w : Nat))), some (.dat (.int (t : Nat))), some (.dat (enc w t F)), some (.dat (enc t w F2)), none, none, none, none, none, none, none, none, none, none, none, none, none, none, none, none]) (t_same (d := enc w w (mul t F F2)) (ev_call2 (d := enc w t F) (d' := enc t w F2) (ρ1 := [some (.dat sc), some (.own st), some (.dat (.int n)), some (.dat (enc n n A)), some (.dat (enc n n B)), some (.dat (enc n n (one n))), some (.dat (.int (w : Nat))), some (.dat (.int (t : Nat))), some (.dat (enc w t F)), some (.dat (enc t w F2)), none, none, none, none, none, none, none, none, none, none, none, none, none, none, none, none]) ?_ ?_ T1) (ev_call3 (d := enc w t F) (d' := enc t w F2) (d'' := .int w) (ρ1 := [some (.dat sc), some (.own st), some (.dat (.int n)), some (.dat (enc n n A)), some (.dat (enc n n B)), some (.dat (enc n n (one n))), some (.dat (.int (w : Nat))), some (.dat (.int (t : Nat))), some (.dat (enc w t F)), some (.dat (enc t w F2)), none, none, none, none, none, none, none, none, none, none, none, none, none, none, none, none]) (ρ2 := [some (.dat sc), some (.own st), some (.dat (.int n)), some (.dat (enc n n A)), some (.dat (enc n n B)), some (.dat (enc n n (one n))), some (.dat (.int (w : Nat))), some (.dat (.int (t : Nat))), some (.dat (enc w t F)), some (.dat (enc t w F2)), none, none, none, none, none, none, none, none, none, none, none, none, none, none, none, none]) ?_ ?_ ?_ T2) (pl_enc (lt_lim (by omega)) (lt_lim (by omega))) (by decide)) (fun h => by cases h) (fun _ => ws_nil ?_))
  · simp [opnds_nilS, opnds_consS, opnd_slot, opnd_ex, ev_var, ev_con, ev_prim, ev_dsp, ev_bop, ev_not, ev_ite, ev_isi, ev_callS, evs_nil, evs_cons, evC_nil, evC_cons, evB_one, evB_more, evT_bop, evT_not, evT_val, evo_var, evo_call', evo_dsp, evo_prim, evo_con, evo_bop, evo_not, evo_ite, evo_isi, getS_0, getS_s, rdAll, rdO, Slot.frz, primF, cmpF, truD, biF_lenT, biF_lenL, biF_tupT, biF_tupL, biF_listT, biF_listL, biF_intI, biF_intB, biF_absI, len_enc, len_row, natI, binF, freshP, isOwn, eqF_int, addI, subI, argS, backA, slotsOf, isiF]
  · simp [opnds_nilS, opnds_consS, opnd_slot, opnd_ex, ev_var, ev_con, ev_prim, ev_dsp, ev_bop, ev_not, ev_ite, ev_isi, ev_callS, evs_nil, evs_cons, evC_nil, evC_cons, evB_one, evB_more, evT_bop, evT_not, evT_val, evo_var, evo_call', evo_dsp, evo_prim, evo_con, evo_bop, evo_not, evo_ite, evo_isi, getS_0, getS_s, rdAll, rdO, Slot.frz, primF, cmpF, truD, biF_lenT, biF_lenL, biF_tupT, biF_tupL, biF_listT, biF_listL, biF_intI, biF_intB, biF_absI, len_enc, len_row, natI, binF, freshP, isOwn, eqF_int, addI, subI, argS, backA, slotsOf, isiF]
  · simp [opnds_nilS, opnds_consS, opnd_slot, opnd_ex, ev_var, ev_con, ev_prim, ev_dsp, ev_bop, ev_not, ev_ite, ev_isi, ev_callS, evs_nil, evs_cons, evC_nil, evC_cons, evB_one, evB_more, evT_bop, evT_not, evT_val, evo_var, evo_call', evo_dsp, evo_prim, evo_con, evo_bop, evo_not, evo_ite, evo_isi, getS_0, getS_s, rdAll, rdO, Slot.frz, primF, cmpF, truD, biF_lenT, biF_lenL, biF_tupT, biF_tupL, biF_listT, biF_listL, biF_intI, biF_intB, biF_absI, len_enc, len_row, natI, binF, freshP, isOwn, eqF_int, addI, subI, argS, backA, slotsOf, isiF]
  · simp [opnds_nilS, opnds_consS, opnd_slot, opnd_ex, ev_var, ev_con, ev_prim, ev_dsp, ev_bop, ev_not, ev_ite, ev_isi, ev_callS, evs_nil, evs_cons, evC_nil, evC_cons, evB_one, evB_more, evT_bop, evT_not, evT_val, evo_var, evo_call', evo_dsp, evo_prim, evo_con, evo_bop, evo_not, evo_ite, evo_isi, getS_0, getS_s, rdAll, rdO, Slot.frz, primF, cmpF, truD, biF_lenT, biF_lenL, biF_tupT, biF_tupL, biF_listT, biF_listL, biF_intI, biF_intB, biF_absI, len_enc, len_row, natI, binF, freshP, isOwn, eqF_int, addI, subI, argS, backA, slotsOf, isiF]
  · simp [opnds_nilS, opnds_consS, opnd_slot, opnd_ex, ev_var, ev_con, ev_prim, ev_dsp, ev_bop, ev_not, ev_ite, ev_isi, ev_callS, evs_nil, evs_cons, evC_nil, evC_cons, evB_one, evB_more, evT_bop, evT_not, evT_val, evo_var, evo_call', evo_dsp, evo_prim, evo_con, evo_bop, evo_not, evo_ite, evo_isi, getS_0, getS_s, rdAll, rdO, Slot.frz, primF, cmpF, truD, biF_lenT, biF_lenL, biF_tupT, biF_tupL, biF_listT, biF_listL, biF_intI, biF_intB, biF_absI, len_enc, len_row, natI, binF, freshP, isOwn, eqF_int, addI, subI, argS, backA, slotsOf, isiF]
  obtain ⟨d5, st5, p5, g5, l5, u5⟩ := ev_pick (k := k + 7) fnd_pick (s := 1) (ρ := [some (.dat sc), some (.own st), some (.dat (.int n)), some (.dat (enc n n A)), some (.dat (enc n n B)), some (.dat (enc n n (one n))), some (.dat (.int (w : Nat))), some (.dat (.int (t : Nat))), some (.dat (enc w t F)), some (.dat (enc t w F2)), none, none, none, none, none, none, none, none, none, none, none, none, none, none, none, none]) rfl g4 (m := 9) (by decide) (by decide)
  exact ws_cons (ws_set (ev_subc p5) (next st5 w t F F2 (d5 - 4) g5 (by omega)))
/-- from the sums on -/
theorem law_13 {sc : D} {st : List D} {n w t : Nat} {A B F F2 : M} {c : Int} (hn : n ≤ 4) (hA : Sup n A) (hA2 : Bd 2 A) (hc : c.natAbs < 2 ^ 3)
    (next : ∀ y, isOwn y = false → WSs (sigOf defs (k + 8)) (d_law.body.drop 18) [some (.dat sc), some (.own st), some (.dat (.int n)), some (.dat (enc n n A)), some (.dat (enc n n B)), some (.dat (enc n n (one n))), some (.dat (.int (w : Nat))), some (.dat (.int (t : Nat))), some (.dat (enc w t F)), some (.dat (enc t w F2)), some (.dat (.int c)), some (.own ((List.range (7 + 1)).map fun k => enc n n (pw n A k))), y, none, none, none, none, none, none, none, none, none, none, none, none, none] QT) : WSs (sigOf defs (k + 8)) (d_law.body.drop 13) [some (.dat sc), some (.own st), some (.dat (.int n)), some (.dat (enc n n A)), some (.dat (enc n n B)), some (.dat (enc n n (one n))), some (.dat (.int (w : Nat))), some (.dat (.int (t : Nat))), some (.dat (enc w t F)), some (.dat (enc t w F2)), some (.dat (.int c)), none, none, none, none, none, none, none, none, none, none, none, none, none, none, none] QT := by
  have L1 : n < lim := lt_lim (by omega)
  refine ws_cons (ws_ite (t := false) (ρ1 := [some (.dat sc), some (.own st), some (.dat (.int n)), some (.dat (enc n n A)), some (.dat (enc n n B)), some (.dat (enc n n (one n))), some (.dat (.int (w : Nat))), some (.dat (.int (t : Nat))), some (.dat (enc w t F)), some (.dat (enc t w F2)), some (.dat (.int c)), none, none, none, none, none, none, none, none, none, none, none, none, none, none, none]) (t_ne (d := enc n n (plus A B)) (n := 3) (ev_call2 (d := enc n n A) (d' := enc n n B) (ρ1 := [some (.dat sc), some (.own st), some (.dat (.int n)), some (.dat (enc n n A)), some (.dat (enc n n B)), some (.dat (enc n n (one n))), some (.dat (.int (w : Nat))), some (.dat (.int (t : Nat))), some (.dat (enc w t F)), some (.dat (enc t w F2)), some (.dat (.int c)), none, none, none, none, none, none, none, none, none, none, none, none, none, none, none]) (by simp [opnds_nilS, opnds_consS, opnd_slot, opnd_ex, ev_var, ev_con, ev_prim, ev_dsp, ev_bop, ev_not, ev_ite, ev_isi, ev_callS, evs_nil, evs_cons, evC_nil, evC_cons, evB_one, evB_more, evT_bop, evT_not, evT_val, evo_var, evo_call', evo_dsp, evo_prim, evo_con, evo_bop, evo_not, evo_ite, evo_isi, getS_0, getS_s, rdAll, rdO, Slot.frz, primF, cmpF, truD, biF_lenT, biF_lenL, biF_tupT, biF_tupL, biF_listT, biF_listL, biF_intI, biF_intB, biF_absI, len_enc, len_row, natI, binF, freshP, isOwn, eqF_int, addI, subI, argS, backA, slotsOf, isiF]) (by simp [opnds_nilS, opnds_consS, opnd_slot, opnd_ex, ev_var, ev_con, ev_prim, ev_dsp, ev_bop, ev_not, ev_ite, ev_isi, ev_callS, evs_nil, evs_cons, evC_nil, evC_cons, evB_one, evB_more, evT_bop, evT_not, evT_val, evo_var, evo_call', evo_dsp, evo_prim, evo_con, evo_bop, evo_not, evo_ite, evo_isi, getS_0, getS_s, rdAll, rdO, Slot.frz, primF, cmpF, truD, biF_lenT, biF_lenL, biF_tupT, biF_tupL, biF_listT, biF_listL, biF_intI, biF_intB, biF_absI, len_enc, len_row, natI, binF, freshP, isOwn, eqF_int, addI, subI, argS, backA, slotsOf, isiF]) (w_plus (k := k + 7) hn hn)) (ev_tab (n := n) (m := n) (plus A B) L1 L1 rfl (fun _ => rfl) (by simp [opnds_nilS, opnds_consS, opnd_slot, opnd_ex, ev_var, ev_con, ev_prim, ev_dsp, ev_bop, ev_not, ev_ite, ev_isi, ev_callS, evs_nil, evs_cons, evC_nil, evC_cons, evB_one, evB_more, evT_bop, evT_not, evT_val, evo_var, evo_call', evo_dsp, evo_prim, evo_con, evo_bop, evo_not, evo_ite, evo_isi, getS_0, getS_s, rdAll, rdO, Slot.frz, primF, cmpF, truD, biF_lenT, biF_lenL, biF_tupT, biF_tupL, biF_listT, biF_listL, biF_intI, biF_intB, biF_absI, len_enc, len_row, natI, binF, freshP, isOwn, eqF_int, addI, subI, argS, backA, slotsOf, isiF]) (fun i hi => by simp [opnds_nilS, opnds_consS, opnd_slot, opnd_ex, ev_var, ev_con, ev_prim, ev_dsp, ev_bop, ev_not, ev_ite, ev_isi, ev_callS, evs_nil, evs_cons, evC_nil, evC_cons, evB_one, evB_more, evT_bop, evT_not, evT_val, evo_var, evo_call', evo_dsp, evo_prim, evo_con, evo_bop, evo_not, evo_ite, evo_isi, getS_0, getS_s, rdAll, rdO, Slot.frz, primF, cmpF, truD, biF_lenT, biF_lenL, biF_tupT, biF_tupL, biF_listT, biF_listL, biF_intI, biF_intB, biF_absI, len_enc, len_row, natI, binF, freshP, isOwn, eqF_int, addI, subI, argS, backA, slotsOf, isiF]) (fun i hi j hj => by simp [opnds_nilS, opnds_consS, opnd_slot, opnd_ex, ev_var, ev_con, ev_prim, ev_dsp, ev_bop, ev_not, ev_ite, ev_isi, ev_callS, evs_nil, evs_cons, evC_nil, evC_cons, evB_one, evB_more, evT_bop, evT_not, evT_val, evo_var, evo_call', evo_dsp, evo_prim, evo_con, evo_bop, evo_not, evo_ite, evo_isi, getS_0, getS_s, rdAll, rdO, Slot.frz, primF, cmpF, truD, biF_lenT, biF_lenL, biF_tupT, biF_tupL, biF_listT, biF_listL, biF_intI, biF_intB, biF_absI, len_enc, len_row, natI, binF, freshP, isOwn, eqF_int, addI, subI, argS, backA, slotsOf, isiF, ix_enc hi, ix_row hj, plus])) (pl_enc L1 L1) (by decide)) (fun h => by cases h) (fun _ => ws_nil ?_))
  refine ws_cons (ws_ite (t := false) (ρ1 := [some (.dat sc), some (.own st), some (.dat (.int n)), some (.dat (enc n n A)), some (.dat (enc n n B)), some (.dat (enc n n (one n))), some (.dat (.int (w : Nat))), some (.dat (.int (t : Nat))), some (.dat (enc w t F)), some (.dat (enc t w F2)), some (.dat (.int c)), none, none, none, none, none, none, none, none, none, none, none, none, none, none, none]) (t_ne (d := enc n n (KM.scal c A)) (n := 3) (ev_call2 (d := enc n n A) (d' := .int c) (ρ1 := [some (.dat sc), some (.own st), some (.dat (.int n)), some (.dat (enc n n A)), some (.dat (enc n n B)), some (.dat (enc n n (one n))), some (.dat (.int (w : Nat))), some (.dat (.int (t : Nat))), some (.dat (enc w t F)), some (.dat (enc t w F2)), some (.dat (.int c)), none, none, none, none, none, none, none, none, none, none, none, none, none, none, none]) (by simp [opnds_nilS, opnds_consS, opnd_slot, opnd_ex, ev_var, ev_con, ev_prim, ev_dsp, ev_bop, ev_not, ev_ite, ev_isi, ev_callS, evs_nil, evs_cons, evC_nil, evC_cons, evB_one, evB_more, evT_bop, evT_not, evT_val, evo_var, evo_call', evo_dsp, evo_prim, evo_con, evo_bop, evo_not, evo_ite, evo_isi, getS_0, getS_s, rdAll, rdO, Slot.frz, primF, cmpF, truD, biF_lenT, biF_lenL, biF_tupT, biF_tupL, biF_listT, biF_listL, biF_intI, biF_intB, biF_absI, len_enc, len_row, natI, binF, freshP, isOwn, eqF_int, addI, subI, argS, backA, slotsOf, isiF]) (by simp [opnds_nilS, opnds_consS, opnd_slot, opnd_ex, ev_var, ev_con, ev_prim, ev_dsp, ev_bop, ev_not, ev_ite, ev_isi, ev_callS, evs_nil, evs_cons, evC_nil, evC_cons, evB_one, evB_more, evT_bop, evT_not, evT_val, evo_var, evo_call', evo_dsp, evo_prim, evo_con, evo_bop, evo_not, evo_ite, evo_isi, getS_0, getS_s, rdAll, rdO, Slot.frz, primF, cmpF, truD, biF_lenT, biF_lenL, biF_tupT, biF_tupL, biF_listT, biF_listL, biF_intI, biF_intB, biF_absI, len_enc, len_row, natI, binF, freshP, isOwn, eqF_int, addI, subI, argS, backA, slotsOf, isiF]) (w_scal (k := k + 7) hn hn hA2 hc (by decide) (by decide) (by decide))) (ev_rows (n := n) (m := n) (g := A) (KM.scal c A) L1 L1 rfl (fun _ => rfl) (by simp [opnds_nilS, opnds_consS, opnd_slot, opnd_ex, ev_var, ev_con, ev_prim, ev_dsp, ev_bop, ev_not, ev_ite, ev_isi, ev_callS, evs_nil, evs_cons, evC_nil, evC_cons, evB_one, evB_more, evT_bop, evT_not, evT_val, evo_var, evo_call', evo_dsp, evo_prim, evo_con, evo_bop, evo_not, evo_ite, evo_isi, getS_0, getS_s, rdAll, rdO, Slot.frz, primF, cmpF, truD, biF_lenT, biF_lenL, biF_tupT, biF_tupL, biF_listT, biF_listL, biF_intI, biF_intB, biF_absI, len_enc, len_row, natI, binF, freshP, isOwn, eqF_int, addI, subI, argS, backA, slotsOf, isiF]) (fun x => by simp [opnds_nilS, opnds_consS, opnd_slot, opnd_ex, ev_var, ev_con, ev_prim, ev_dsp, ev_bop, ev_not, ev_ite, ev_isi, ev_callS, evs_nil, evs_cons, evC_nil, evC_cons, evB_one, evB_more, evT_bop, evT_not, evT_val, evo_var, evo_call', evo_dsp, evo_prim, evo_con, evo_bop, evo_not, evo_ite, evo_isi, getS_0, getS_s, rdAll, rdO, Slot.frz, primF, cmpF, truD, biF_lenT, biF_lenL, biF_tupT, biF_tupL, biF_listT, biF_listL, biF_intI, biF_intB, biF_absI, len_enc, len_row, natI, binF, freshP, isOwn, eqF_int, addI, subI, argS, backA, slotsOf, isiF]) (fun i hi j hj => by simp [opnds_nilS, opnds_consS, opnd_slot, opnd_ex, ev_var, ev_con, ev_prim, ev_dsp, ev_bop, ev_not, ev_ite, ev_isi, ev_callS, evs_nil, evs_cons, evC_nil, evC_cons, evB_one, evB_more, evT_bop, evT_not, evT_val, evo_var, evo_call', evo_dsp, evo_prim, evo_con, evo_bop, evo_not, evo_ite, evo_isi, getS_0, getS_s, rdAll, rdO, Slot.frz, primF, cmpF, truD, biF_lenT, biF_lenL, biF_tupT, biF_tupL, biF_listT, biF_listL, biF_intI, biF_intB, biF_absI, len_enc, len_row, natI, binF, freshP, isOwn, eqF_int, addI, subI, argS, backA, slotsOf, isiF, mulI hc (hA2 i j) (by decide) (by decide) (by decide), KM.scal])) (pl_enc L1 L1) (by decide)) (fun h => by cases h) (fun _ => ws_nil ?_))
  refine ws_cons (ws_ite (t := false) (ρ1 := [some (.dat sc), some (.own st), some (.dat (.int n)), some (.dat (enc n n A)), some (.dat (enc n n B)), some (.dat (enc n n (one n))), some (.dat (.int (w : Nat))), some (.dat (.int (t : Nat))), some (.dat (enc w t F)), some (.dat (enc t w F2)), some (.dat (.int c)), none, none, none, none, none, none, none, none, none, none, none, none, none, none, none]) (t_ne (d := enc n n fun i j => A j i) (n := 3) (ev_call1 (d := enc n n A) (ρ1 := [some (.dat sc), some (.own st), some (.dat (.int n)), some (.dat (enc n n A)), some (.dat (enc n n B)), some (.dat (enc n n (one n))), some (.dat (.int (w : Nat))), some (.dat (.int (t : Nat))), some (.dat (enc w t F)), some (.dat (enc t w F2)), some (.dat (.int c)), none, none, none, none, none, none, none, none, none, none, none, none, none, none, none]) (by simp [opnds_nilS, opnds_consS, opnd_slot, opnd_ex, ev_var, ev_con, ev_prim, ev_dsp, ev_bop, ev_not, ev_ite, ev_isi, ev_callS, evs_nil, evs_cons, evC_nil, evC_cons, evB_one, evB_more, evT_bop, evT_not, evT_val, evo_var, evo_call', evo_dsp, evo_prim, evo_con, evo_bop, evo_not, evo_ite, evo_isi, getS_0, getS_s, rdAll, rdO, Slot.frz, primF, cmpF, truD, biF_lenT, biF_lenL, biF_tupT, biF_tupL, biF_listT, biF_listL, biF_intI, biF_intB, biF_absI, len_enc, len_row, natI, binF, freshP, isOwn, eqF_int, addI, subI, argS, backA, slotsOf, isiF]) (w_flip (k := k + 7) hn)) (ev_tab (n := n) (m := n) (fun i j => A j i) L1 L1 rfl (fun _ => rfl) (by simp [opnds_nilS, opnds_consS, opnd_slot, opnd_ex, ev_var, ev_con, ev_prim, ev_dsp, ev_bop, ev_not, ev_ite, ev_isi, ev_callS, evs_nil, evs_cons, evC_nil, evC_cons, evB_one, evB_more, evT_bop, evT_not, evT_val, evo_var, evo_call', evo_dsp, evo_prim, evo_con, evo_bop, evo_not, evo_ite, evo_isi, getS_0, getS_s, rdAll, rdO, Slot.frz, primF, cmpF, truD, biF_lenT, biF_lenL, biF_tupT, biF_tupL, biF_listT, biF_listL, biF_intI, biF_intB, biF_absI, len_enc, len_row, natI, binF, freshP, isOwn, eqF_int, addI, subI, argS, backA, slotsOf, isiF]) (fun i hi => by simp [opnds_nilS, opnds_consS, opnd_slot, opnd_ex, ev_var, ev_con, ev_prim, ev_dsp, ev_bop, ev_not, ev_ite, ev_isi, ev_callS, evs_nil, evs_cons, evC_nil, evC_cons, evB_one, evB_more, evT_bop, evT_not, evT_val, evo_var, evo_call', evo_dsp, evo_prim, evo_con, evo_bop, evo_not, evo_ite, evo_isi, getS_0, getS_s, rdAll, rdO, Slot.frz, primF, cmpF, truD, biF_lenT, biF_lenL, biF_tupT, biF_tupL, biF_listT, biF_listL, biF_intI, biF_intB, biF_absI, len_enc, len_row, natI, binF, freshP, isOwn, eqF_int, addI, subI, argS, backA, slotsOf, isiF]) (fun i hi j hj => by simp [opnds_nilS, opnds_consS, opnd_slot, opnd_ex, ev_var, ev_con, ev_prim, ev_dsp, ev_bop, ev_not, ev_ite, ev_isi, ev_callS, evs_nil, evs_cons, evC_nil, evC_cons, evB_one, evB_more, evT_bop, evT_not, evT_val, evo_var, evo_call', evo_dsp, evo_prim, evo_con, evo_bop, evo_not, evo_ite, evo_isi, getS_0, getS_s, rdAll, rdO, Slot.frz, primF, cmpF, truD, biF_lenT, biF_lenL, biF_tupT, biF_tupL, biF_listT, biF_listL, biF_intI, biF_intB, biF_absI, len_enc, len_row, natI, binF, freshP, isOwn, eqF_int, addI, subI, argS, backA, slotsOf, isiF, ix_enc hj, ix_row hi])) (pl_enc L1 L1) (by decide)) (fun h => by cases h) (fun _ => ws_nil ?_))
  refine ws_cons (ws_seto (d := .own [enc n n (one n)]) (ρ1 := [some (.dat sc), some (.own st), some (.dat (.int n)), some (.dat (enc n n A)), some (.dat (enc n n B)), some (.dat (enc n n (one n))), some (.dat (.int (w : Nat))), some (.dat (.int (t : Nat))), some (.dat (enc w t F)), some (.dat (enc t w F2)), some (.dat (.int c)), none, none, none, none, none, none, none, none, none, none, none, none, none, none, none]) ?_ ?_)
  · simp [opnds_nilS, opnds_consS, opnd_slot, opnd_ex, ev_var, ev_con, ev_prim, ev_dsp, ev_bop, ev_not, ev_ite, ev_isi, ev_callS, evs_nil, evs_cons, evC_nil, evC_cons, evB_one, evB_more, evT_bop, evT_not, evT_val, evo_var, evo_call', evo_dsp, evo_prim, evo_con, evo_bop, evo_not, evo_ite, evo_isi, getS_0, getS_s, rdAll, rdO, Slot.frz, primF, cmpF, truD, biF_lenT, biF_lenL, biF_tupT, biF_tupL, biF_listT, biF_listL, biF_intI, biF_intB, biF_absI, len_enc, len_row, natI, binF, freshP, isOwn, eqF_int, addI, subI, argS, backA, slotsOf, isiF]
    exact lim0
  refine ws_cons (ws_loop (L := List.range 7) (ds := [.int ((7 : Nat) : Int)]) (ρ1 := [some (.dat sc), some (.own st), some (.dat (.int n)), some (.dat (enc n n A)), some (.dat (enc n n B)), some (.dat (enc n n (one n))), some (.dat (.int (w : Nat))), some (.dat (.int (t : Nat))), some (.dat (enc w t F)), some (.dat (enc t w F2)), some (.dat (.int c)), some (.own [enc n n (one n)]), none, none, none, none, none, none, none, none, none, none, none, none, none, none]) (fun j => .int (j : Int)) (fun xs ρ => ∃ y i, xs = (List.range 7).drop i ∧ i ≤ 7 ∧ isOwn y = false ∧ ρ = [some (.dat sc), some (.own st), some (.dat (.int n)), some (.dat (enc n n A)), some (.dat (enc n n B)), some (.dat (enc n n (one n))), some (.dat (.int (w : Nat))), some (.dat (.int (t : Nat))), some (.dat (enc w t F)), some (.dat (enc t w F2)), some (.dat (.int c)), some (.own ((List.range (i + 1)).map fun k => enc n n (pw n A k))), y, none, none, none, none, none, none, none, none, none, none, none, none, none]) (by simp [opnds_nilS, opnds_consS, opnd_slot, opnd_ex, ev_var, ev_con, ev_prim, ev_dsp, ev_bop, ev_not, ev_ite, ev_isi, ev_callS, evs_nil, evs_cons, evC_nil, evC_cons, evB_one, evB_more, evT_bop, evT_not, evT_val, evo_var, evo_call', evo_dsp, evo_prim, evo_con, evo_bop, evo_not, evo_ite, evo_isi, getS_0, getS_s, rdAll, rdO, Slot.frz, primF, cmpF, truD, biF_lenT, biF_lenL, biF_tupT, biF_tupL, biF_listT, biF_listL, biF_intI, biF_intB, biF_absI, len_enc, len_row, natI, binF, freshP, isOwn, eqF_int, addI, subI, argS, backA, slotsOf, isiF]) (rng_nat (n := 7) (Nat.le_of_lt (lt_lim (by decide)))) rfl ⟨none, 0, rfl, Nat.zero_le _, rfl, rfl⟩ (fun x xs ρ h => ?_) (fun ρ h => ?_))
  · obtain ⟨y, i, e, hi, hy, rfl⟩ := h
    have hi' : i < 7 := by
      rcases Nat.lt_or_ge i 7 with c | c
      · exact c
      · rw [List.drop_eq_nil_of_le (by rw [List.length_range]; exact c)] at e; cases e
    rw [List.drop_eq_getElem_cons (by rw [List.length_range]; exact hi')] at e
    simp only [List.getElem_range, List.cons.injEq] at e
    obtain ⟨rfl, rfl⟩ := e
    refine ⟨_, rfl, ?_⟩
    have al : atI ((List.range (x + 1)).map fun k => enc n n (pw n A k)) (-1) = some (enc n n (pw n A x)) := by
      rw [List.range_succ, List.map_append]
      exact atI_last _ _
    refine ws_cons (ws_app rfl (ρ1 := [some (.dat sc), some (.own st), some (.dat (.int n)), some (.dat (enc n n A)), some (.dat (enc n n B)), some (.dat (enc n n (one n))), some (.dat (.int (w : Nat))), some (.dat (.int (t : Nat))), some (.dat (enc w t F)), some (.dat (enc t w F2)), some (.dat (.int c)), some (.own ((List.range (x + 1)).map fun k => enc n n (pw n A k))), some (.dat (.int (x : Int))), none, none, none, none, none, none, none, none, none, none, none, none, none]) (d := enc n n (pw n A (x + 1))) (ev_call3 (d := enc n n (pw n A x)) (d' := enc n n A) (d'' := .int n) (ρ1 := [some (.dat sc), some (.own st), some (.dat (.int n)), some (.dat (enc n n A)), some (.dat (enc n n B)), some (.dat (enc n n (one n))), some (.dat (.int (w : Nat))), some (.dat (.int (t : Nat))), some (.dat (enc w t F)), some (.dat (enc t w F2)), some (.dat (.int c)), some (.own ((List.range (x + 1)).map fun k => enc n n (pw n A k))), some (.dat (.int (x : Int))), none, none, none, none, none, none, none, none, none, none, none, none, none]) (ρ2 := [some (.dat sc), some (.own st), some (.dat (.int n)), some (.dat (enc n n A)), some (.dat (enc n n B)), some (.dat (enc n n (one n))), some (.dat (.int (w : Nat))), some (.dat (.int (t : Nat))), some (.dat (enc w t F)), some (.dat (enc t w F2)), some (.dat (.int c)), some (.own ((List.range (x + 1)).map fun k => enc n n (pw n A k))), some (.dat (.int (x : Int))), none, none, none, none, none, none, none, none, none, none, none, none, none]) (by simp [opnds_nilS, opnds_consS, opnd_slot, opnd_ex, ev_var, ev_con, ev_prim, ev_dsp, ev_bop, ev_not, ev_ite, ev_isi, ev_callS, evs_nil, evs_cons, evC_nil, evC_cons, evB_one, evB_more, evT_bop, evT_not, evT_val, evo_var, evo_call', evo_dsp, evo_prim, evo_con, evo_bop, evo_not, evo_ite, evo_isi, getS_0, getS_s, rdAll, rdO, Slot.frz, primF, cmpF, truD, biF_lenT, biF_lenL, biF_tupT, biF_tupL, biF_listT, biF_listL, biF_intI, biF_intB, biF_absI, len_enc, len_row, natI, binF, freshP, isOwn, eqF_int, addI, subI, argS, backA, slotsOf, isiF, ixF, al]) (by simp [opnds_nilS, opnds_consS, opnd_slot, opnd_ex, ev_var, ev_con, ev_prim, ev_dsp, ev_bop, ev_not, ev_ite, ev_isi, ev_callS, evs_nil, evs_cons, evC_nil, evC_cons, evB_one, evB_more, evT_bop, evT_not, evT_val, evo_var, evo_call', evo_dsp, evo_prim, evo_con, evo_bop, evo_not, evo_ite, evo_isi, getS_0, getS_s, rdAll, rdO, Slot.frz, primF, cmpF, truD, biF_lenT, biF_lenL, biF_tupT, biF_tupL, biF_listT, biF_listL, biF_intI, biF_intB, biF_absI, len_enc, len_row, natI, binF, freshP, isOwn, eqF_int, addI, subI, argS, backA, slotsOf, isiF]) (by simp [opnds_nilS, opnds_consS, opnd_slot, opnd_ex, ev_var, ev_con, ev_prim, ev_dsp, ev_bop, ev_not, ev_ite, ev_isi, ev_callS, evs_nil, evs_cons, evC_nil, evC_cons, evB_one, evB_more, evT_bop, evT_not, evT_val, evo_var, evo_call', evo_dsp, evo_prim, evo_con, evo_bop, evo_not, evo_ite, evo_isi, getS_0, getS_s, rdAll, rdO, Slot.frz, primF, cmpF, truD, biF_lenT, biF_lenL, biF_tupT, biF_tupL, biF_listT, biF_listL, biF_intI, biF_intB, biF_absI, len_enc, len_row, natI, binF, freshP, isOwn, eqF_int, addI, subI, argS, backA, slotsOf, isiF]) (w_prodL (k := k + 7) hn hn hn (bd_pn hn hA2 (by omega)) hA2 (by decide) (by decide) (by decide))) rfl (by rw [List.length_map, List.length_range]; exact lt_lim (by omega)) (ws_nil ⟨rfl, some (.dat (.int (x : Int))), x + 1, rfl, hi', rfl, ?_⟩))
    rw [List.range_succ (n := x + 1), List.map_append]; rfl
  · obtain ⟨y, i, e, hi, hy, rfl⟩ := h
    have : i = 7 := by
      have := congrArg List.length e
      simp at this; omega
    subst this
    exact next y hy
theorem ev_cmp2 {α : Type} {G : Sig} {ρ : PEnv} {v : Nat} {ik : IK} {ies : List E} {elt : E} {ds : List D} {L : List α} (φ g : α → D) (h1 : evs G ies ρ = .ok (ds, ρ)) (h2 : itemsOf ρ ik ds = some (L.map φ)) (ho : isOwn (getS ρ v) = false) (hback : (ρ.set v none).set v (getS ρ v) = ρ) (hb : ∀ x, sameB ik ρ (ρ.set v x) = true) (hl : L.length < lim)
    (step : ∀ x ∈ L, ev G elt (ρ.set v (some (.dat (φ x)))) = .ok (g x, ρ.set v (some (.dat (φ x))))) : ev G (.comp [v] (false, [v]) ik ies [] elt) ρ = .ok (.lst (L.map g), ρ) := by
  have w1 : wipeP ρ [v] = ρ.set v none := rfl
  refine (ev_compM φ g h1 h2 (by simp [ho]) hl fun x hx => ⟨ρ.set v (some (.dat (φ x))), ρ.set v (some (.dat (φ x))), ?_, step x hx, hb _, ?_⟩).trans ?_
  · show some ((ρ.set v none).set v _) = _
    rw [List.set_set]
  · show (ρ.set v (some (Slot.dat (φ x)))).set v none = ρ.set v none
    rw [List.set_set]
  · show Out.ok (D.lst (L.map g), (ρ.set v none).set v (getS ρ v)) = _
    rw [hback]
/-- from the exponent on -/
theorem law_18 {sc : D} {st : List D} {n w t : Nat} {A B F F2 : M} {c : Int} {y : Option Px.Slot} (hy : isOwn y = false) (hst : Good st) (hn : n ≤ 4) (hA : Sup n A) (hA2 : Bd 2 A)
    (next : ∀ st e, Good st → WSs (sigOf defs (k + 8)) (d_law.body.drop 22) [some (.dat sc), some (.own st), some (.dat (.int n)), some (.dat (enc n n A)), some (.dat (enc n n B)), some (.dat (enc n n (one n))), some (.dat (.int (w : Nat))), some (.dat (.int (t : Nat))), some (.dat (enc w t F)), some (.dat (enc t w F2)), some (.dat (.int c)), some (.own ((List.range (7 + 1)).map fun k => enc n n (pw n A k))), y, some (.dat (.int (e : Nat))), some (.dat (.lst ((List.range 8).map fun k => .int (p n A k)))), some (.dat (nums n A)), none, none, none, none, none, none, none, none, none, none] QT) : WSs (sigOf defs (k + 8)) (d_law.body.drop 18) [some (.dat sc), some (.own st), some (.dat (.int n)), some (.dat (enc n n A)), some (.dat (enc n n B)), some (.dat (enc n n (one n))), some (.dat (.int (w : Nat))), some (.dat (.int (t : Nat))), some (.dat (enc w t F)), some (.dat (enc t w F2)), some (.dat (.int c)), some (.own ((List.range (7 + 1)).map fun k => enc n n (pw n A k))), y, none, none, none, none, none, none, none, none, none, none, none, none, none] QT := by
  have L1 : n < lim := lt_lim (by omega)
  obtain ⟨d, st1, p1, g1, l1, u1⟩ := ev_pick (k := k + 7) fnd_pick (s := 1) (ρ := [some (.dat sc), some (.own st), some (.dat (.int n)), some (.dat (enc n n A)), some (.dat (enc n n B)), some (.dat (enc n n (one n))), some (.dat (.int (w : Nat))), some (.dat (.int (t : Nat))), some (.dat (enc w t F)), some (.dat (enc t w F2)), some (.dat (.int c)), some (.own ((List.range (7 + 1)).map fun k => enc n n (pw n A k))), y, none, none, none, none, none, none, none, none, none, none, none, none, none]) rfl hst (m := 8) (by decide) (by decide)
  obtain ⟨e, rfl⟩ : ∃ e : Nat, d = (e : Int) := ⟨d.toNat, by omega⟩
  refine ws_cons (ws_set p1 ?_)
  clear p1 hst
  generalize st1 = st at *
  have al := at_range (φ := fun k => enc n n (pw n A k)) (n := 7 + 1) (i := e) (by omega)
  refine ws_cons (ws_ite (t := false) (ρ1 := [some (.dat sc), some (.own st), some (.dat (.int n)), some (.dat (enc n n A)), some (.dat (enc n n B)), some (.dat (enc n n (one n))), some (.dat (.int (w : Nat))), some (.dat (.int (t : Nat))), some (.dat (enc w t F)), some (.dat (enc t w F2)), some (.dat (.int c)), some (.own ((List.range (7 + 1)).map fun k => enc n n (pw n A k))), y, some (.dat (.int (e : Nat))), none, none, none, none, none, none, none, none, none, none, none, none]) (t_same (d := enc n n (pw n A e)) (ev_call2 (d := enc n n A) (d' := .int e) (ρ1 := [some (.dat sc), some (.own st), some (.dat (.int n)), some (.dat (enc n n A)), some (.dat (enc n n B)), some (.dat (enc n n (one n))), some (.dat (.int (w : Nat))), some (.dat (.int (t : Nat))), some (.dat (enc w t F)), some (.dat (enc t w F2)), some (.dat (.int c)), some (.own ((List.range (7 + 1)).map fun k => enc n n (pw n A k))), y, some (.dat (.int (e : Nat))), none, none, none, none, none, none, none, none, none, none, none, none]) ?_ ?_ (w_power (k := k + 6) hn (by omega) hA hA2)) ?_ (pl_enc L1 L1) (by decide)) (fun h => by cases h) (fun _ => ws_nil ?_))
  · simp [opnds_nilS, opnds_consS, opnd_slot, opnd_ex, ev_var, ev_con, ev_prim, ev_dsp, ev_bop, ev_not, ev_ite, ev_isi, ev_callS, evs_nil, evs_cons, evC_nil, evC_cons, evB_one, evB_more, evT_bop, evT_not, evT_val, evo_var, evo_call', evo_dsp, evo_prim, evo_con, evo_bop, evo_not, evo_ite, evo_isi, getS_0, getS_s, rdAll, rdO, Slot.frz, primF, cmpF, truD, biF_lenT, biF_lenL, biF_tupT, biF_tupL, biF_listT, biF_listL, biF_intI, biF_intB, biF_absI, len_enc, len_row, natI, binF, freshP, isOwn, eqF_int, addI, subI, argS, backA, slotsOf, isiF]
  · simp [opnds_nilS, opnds_consS, opnd_slot, opnd_ex, ev_var, ev_con, ev_prim, ev_dsp, ev_bop, ev_not, ev_ite, ev_isi, ev_callS, evs_nil, evs_cons, evC_nil, evC_cons, evB_one, evB_more, evT_bop, evT_not, evT_val, evo_var, evo_call', evo_dsp, evo_prim, evo_con, evo_bop, evo_not, evo_ite, evo_isi, getS_0, getS_s, rdAll, rdO, Slot.frz, primF, cmpF, truD, biF_lenT, biF_lenL, biF_tupT, biF_tupL, biF_listT, biF_listL, biF_intI, biF_intB, biF_absI, len_enc, len_row, natI, binF, freshP, isOwn, eqF_int, addI, subI, argS, backA, slotsOf, isiF]
  · rw [ev_prim]
    simp [opnds_nilS, opnds_consS, opnd_slot, opnd_ex, ev_var, ev_con, ev_prim, ev_dsp, ev_bop, ev_not, ev_ite, ev_isi, ev_callS, evs_nil, evs_cons, evC_nil, evC_cons, evB_one, evB_more, evT_bop, evT_not, evT_val, evo_var, evo_call', evo_dsp, evo_prim, evo_con, evo_bop, evo_not, evo_ite, evo_isi, getS_0, getS_s, rdAll, rdO, Slot.frz, primF, cmpF, truD, biF_lenT, biF_lenL, biF_tupT, biF_tupL, biF_listT, biF_listL, biF_intI, biF_intB, biF_absI, len_enc, len_row, natI, binF, freshP, isOwn, eqF_int, addI, subI, argS, backA, slotsOf, isiF, ixF, -List.range_succ, al]
  refine ws_cons (ws_set (ev_cmp2 (L := List.range (7 + 1)) (ds := []) (ρ := [some (.dat sc), some (.own st), some (.dat (.int n)), some (.dat (enc n n A)), some (.dat (enc n n B)), some (.dat (enc n n (one n))), some (.dat (.int (w : Nat))), some (.dat (.int (t : Nat))), some (.dat (enc w t F)), some (.dat (enc t w F2)), some (.dat (.int c)), some (.own ((List.range (7 + 1)).map fun k => enc n n (pw n A k))), y, some (.dat (.int (e : Nat))), none, none, none, none, none, none, none, none, none, none, none, none]) (fun k => enc n n (pw n A k)) (fun k => .int (p n A k)) (by simp [opnds_nilS, opnds_consS, opnd_slot, opnd_ex, ev_var, ev_con, ev_prim, ev_dsp, ev_bop, ev_not, ev_ite, ev_isi, ev_callS, evs_nil, evs_cons, evC_nil, evC_cons, evB_one, evB_more, evT_bop, evT_not, evT_val, evo_var, evo_call', evo_dsp, evo_prim, evo_con, evo_bop, evo_not, evo_ite, evo_isi, getS_0, getS_s, rdAll, rdO, Slot.frz, primF, cmpF, truD, biF_lenT, biF_lenL, biF_tupT, biF_tupL, biF_listT, biF_listL, biF_intI, biF_intB, biF_absI, len_enc, len_row, natI, binF, freshP, isOwn, eqF_int, addI, subI, argS, backA, slotsOf, isiF]) rfl rfl rfl (fun _ => decide_eq_true rfl) (by rw [List.length_range]; exact lt_lim (by decide)) (fun q hq => ?_)) ?_)
  · refine ev_sumC (L := List.range n) (f := fun j => pw n A q j j) (ev_cmp2 (L := List.range n) (ds := [.int n]) (ρ := [some (.dat sc), some (.own st), some (.dat (.int n)), some (.dat (enc n n A)), some (.dat (enc n n B)), some (.dat (enc n n (one n))), some (.dat (.int (w : Nat))), some (.dat (.int (t : Nat))), some (.dat (enc w t F)), some (.dat (enc t w F2)), some (.dat (.int c)), some (.own ((List.range (7 + 1)).map fun k => enc n n (pw n A k))), y, some (.dat (.int (e : Nat))), none, none, none, none, none, none, none, none, some (.dat (enc n n (pw n A q))), none, none, none]) (fun j => .int (j : Int)) _ ?_ (rng_nat (n := n) (Nat.le_of_lt L1)) hy rfl (fun _ => rfl) (by rw [List.length_range]; exact L1) (fun j hj => ?_))
    · simp [opnds_nilS, opnds_consS, opnd_slot, opnd_ex, ev_var, ev_con, ev_prim, ev_dsp, ev_bop, ev_not, ev_ite, ev_isi, ev_callS, evs_nil, evs_cons, evC_nil, evC_cons, evB_one, evB_more, evT_bop, evT_not, evT_val, evo_var, evo_call', evo_dsp, evo_prim, evo_con, evo_bop, evo_not, evo_ite, evo_isi, getS_0, getS_s, rdAll, rdO, Slot.frz, primF, cmpF, truD, biF_lenT, biF_lenL, biF_tupT, biF_tupL, biF_listT, biF_listL, biF_intI, biF_intB, biF_absI, len_enc, len_row, natI, binF, freshP, isOwn, eqF_int, addI, subI, argS, backA, slotsOf, isiF, evs_one]
    · have hj := List.mem_range.mp hj
      simp [opnds_nilS, opnds_consS, opnd_slot, opnd_ex, ev_var, ev_con, ev_prim, ev_dsp, ev_bop, ev_not, ev_ite, ev_isi, ev_callS, evs_nil, evs_cons, evC_nil, evC_cons, evB_one, evB_more, evT_bop, evT_not, evT_val, evo_var, evo_call', evo_dsp, evo_prim, evo_con, evo_bop, evo_not, evo_ite, evo_isi, getS_0, getS_s, rdAll, rdO, Slot.frz, primF, cmpF, truD, biF_lenT, biF_lenL, biF_tupT, biF_tupL, biF_listT, biF_listL, biF_intI, biF_intB, biF_absI, len_enc, len_row, natI, binF, freshP, isOwn, eqF_int, addI, subI, argS, backA, slotsOf, isiF, ix_enc hj, ix_row hj]
  refine ws_cons (ws_set (ev_call1 (d := enc n n A) (ρ1 := [some (.dat sc), some (.own st), some (.dat (.int n)), some (.dat (enc n n A)), some (.dat (enc n n B)), some (.dat (enc n n (one n))), some (.dat (.int (w : Nat))), some (.dat (.int (t : Nat))), some (.dat (enc w t F)), some (.dat (enc t w F2)), some (.dat (.int c)), some (.own ((List.range (7 + 1)).map fun k => enc n n (pw n A k))), y, some (.dat (.int (e : Nat))), some (.dat (.lst ((List.range 8).map fun k => .int (p n A k)))), none, none, none, none, none, none, none, none, none, none, none]) (by simp [opnds_nilS, opnds_consS, opnd_slot, opnd_ex, ev_var, ev_con, ev_prim, ev_dsp, ev_bop, ev_not, ev_ite, ev_isi, ev_callS, evs_nil, evs_cons, evC_nil, evC_cons, evB_one, evB_more, evT_bop, evT_not, evT_val, evo_var, evo_call', evo_dsp, evo_prim, evo_con, evo_bop, evo_not, evo_ite, evo_isi, getS_0, getS_s, rdAll, rdO, Slot.frz, primF, cmpF, truD, biF_lenT, biF_lenL, biF_tupT, biF_tupL, biF_listT, biF_listL, biF_intI, biF_intB, biF_absI, len_enc, len_row, natI, binF, freshP, isOwn, eqF_int, addI, subI, argS, backA, slotsOf, isiF]) (w_char (k := k + 6) hn hA2)) ?_)
  exact next st e g1
theorem ev_call1o {G : Sig} {f : Str} {e : E} {ρ ρ1 : PEnv} {d : D} {xs : List D} (h : ev G e ρ = .ok (d, ρ1)) (hc : callV G f [d] = .ok (.own xs)) : ev G (.call f [.ex e]) ρ = .ok (.lst xs, ρ1) := by
  have h1 : opnds G [.ex e] ρ = .ok ([d].map .val, ρ1) := opnds_ex h opnds_nil
  unfold ev; rw [callR_vals (G := G) (f := f) (o := fun ρ => opnds G [.ex e] ρ) (ρ := ρ) h1 hc]; rfl
theorem ev_call2o {G : Sig} {f : Str} {e e' : E} {ρ ρ1 ρ2 : PEnv} {d d' : D} {xs : List D} (h : ev G e ρ = .ok (d, ρ1)) (h' : ev G e' ρ1 = .ok (d', ρ2)) (hc : callV G f [d, d'] = .ok (.own xs)) : ev G (.call f [.ex e, .ex e']) ρ = .ok (.lst xs, ρ2) := by
  have h1 : opnds G [.ex e, .ex e'] ρ = .ok ([d, d'].map .val, ρ2) := opnds_ex h (opnds_ex h' opnds_nil)
  unfold ev; rw [callR_vals (G := G) (f := f) (o := fun ρ => opnds G [.ex e, .ex e'] ρ) (ρ := ρ) h1 hc]; rfl
theorem pl_trs {n : Nat} {A : M} : Pl 2 (.lst (trs n A 7)) := by
  refine ⟨by unfold trs; rw [List.length_map, List.length_range]; exact lt_lim (by decide), fun x hx => ?_⟩
  obtain ⟨j, _, rfl⟩ := List.mem_map.mp hx
  trivial
/-- from the traces on -/
theorem law_22 {sc : D} {st : List D} {n w t e : Nat} {A B F F2 : M} {c : Int} {y : Option Px.Slot} (hn : n ≤ 4) (hA : Sup n A) (hA2 : Bd 2 A)
    (next : WSs (sigOf defs (k + 8)) (d_law.body.drop 24) [some (.dat sc), some (.own st), some (.dat (.int n)), some (.dat (enc n n A)), some (.dat (enc n n B)), some (.dat (enc n n (one n))), some (.dat (.int (w : Nat))), some (.dat (.int (t : Nat))), some (.dat (enc w t F)), some (.dat (enc t w F2)), some (.dat (.int c)), some (.own ((List.range (7 + 1)).map fun k => enc n n (pw n A k))), y, some (.dat (.int (e : Nat))), some (.dat (.lst ((List.range 8).map fun k => .int (p n A k)))), some (.dat (nums n A)), none, none, none, none, none, none, none, none, none, none] QT) : WSs (sigOf defs (k + 8)) (d_law.body.drop 22) [some (.dat sc), some (.own st), some (.dat (.int n)), some (.dat (enc n n A)), some (.dat (enc n n B)), some (.dat (enc n n (one n))), some (.dat (.int (w : Nat))), some (.dat (.int (t : Nat))), some (.dat (enc w t F)), some (.dat (enc t w F2)), some (.dat (.int c)), some (.own ((List.range (7 + 1)).map fun k => enc n n (pw n A k))), y, some (.dat (.int (e : Nat))), some (.dat (.lst ((List.range 8).map fun k => .int (p n A k)))), some (.dat (nums n A)), none, none, none, none, none, none, none, none, none, none] QT := by
  have tp : tr n A = p n A 1 := by unfold p; rw [pw_one hA]
  have T1 := w_trace (k := k + 7) (f := A) hn
  rw [tp] at T1
  have a1 : atI ((List.range 8).map fun k => D.int (p n A k)) 1 = some (.int (p n A 1)) := at_range (n := 8) (i := 1) (by decide)
  have s1 : slF (some 1) none (.lst ((List.range 8).map fun k => D.int (p n A k))) = some (.lst (trs n A 7)) := slDL (j := 1)
  have e14 : ev (sigOf defs (k + 8)) (.prim (.sl true false) [.slot 14, .ex (.con (.int 1))]) [some (.dat sc), some (.own st), some (.dat (.int n)), some (.dat (enc n n A)), some (.dat (enc n n B)), some (.dat (enc n n (one n))), some (.dat (.int (w : Nat))), some (.dat (.int (t : Nat))), some (.dat (enc w t F)), some (.dat (enc t w F2)), some (.dat (.int c)), some (.own ((List.range (7 + 1)).map fun k => enc n n (pw n A k))), y, some (.dat (.int (e : Nat))), some (.dat (.lst ((List.range 8).map fun k => .int (p n A k)))), some (.dat (nums n A)), none, none, none, none, none, none, none, none, none, none] = .ok (.lst (trs n A 7), [some (.dat sc), some (.own st), some (.dat (.int n)), some (.dat (enc n n A)), some (.dat (enc n n B)), some (.dat (enc n n (one n))), some (.dat (.int (w : Nat))), some (.dat (.int (t : Nat))), some (.dat (enc w t F)), some (.dat (enc t w F2)), some (.dat (.int c)), some (.own ((List.range (7 + 1)).map fun k => enc n n (pw n A k))), y, some (.dat (.int (e : Nat))), some (.dat (.lst ((List.range 8).map fun k => .int (p n A k)))), some (.dat (nums n A)), none, none, none, none, none, none, none, none, none, none]) := by
    simp [opnds_nilS, opnds_consS, opnd_slot, opnd_ex, ev_var, ev_con, ev_prim, ev_dsp, ev_bop, ev_not, ev_ite, ev_isi, ev_callS, evs_nil, evs_cons, evC_nil, evC_cons, evB_one, evB_more, evT_bop, evT_not, evT_val, evo_var, evo_call', evo_dsp, evo_prim, evo_con, evo_bop, evo_not, evo_ite, evo_isi, getS_0, getS_s, rdAll, rdO, Slot.frz, primF, cmpF, truD, biF_lenT, biF_lenL, biF_tupT, biF_tupL, biF_listT, biF_listL, biF_intI, biF_intB, biF_absI, len_enc, len_row, natI, binF, freshP, isOwn, eqF_int, addI, subI, argS, backA, slotsOf, isiF, -List.range_succ, s1]
  refine ws_cons (ws_ite (t := false) (ρ1 := [some (.dat sc), some (.own st), some (.dat (.int n)), some (.dat (enc n n A)), some (.dat (enc n n B)), some (.dat (enc n n (one n))), some (.dat (.int (w : Nat))), some (.dat (.int (t : Nat))), some (.dat (enc w t F)), some (.dat (enc t w F2)), some (.dat (.int c)), some (.own ((List.range (7 + 1)).map fun k => enc n n (pw n A k))), y, some (.dat (.int (e : Nat))), some (.dat (.lst ((List.range 8).map fun k => .int (p n A k)))), some (.dat (nums n A)), none, none, none, none, none, none, none, none, none, none]) (or3 (t_ne (d := .int (p n A 1)) (n := 1) (ev_call1 (d := enc n n A) (ρ1 := [some (.dat sc), some (.own st), some (.dat (.int n)), some (.dat (enc n n A)), some (.dat (enc n n B)), some (.dat (enc n n (one n))), some (.dat (.int (w : Nat))), some (.dat (.int (t : Nat))), some (.dat (enc w t F)), some (.dat (enc t w F2)), some (.dat (.int c)), some (.own ((List.range (7 + 1)).map fun k => enc n n (pw n A k))), y, some (.dat (.int (e : Nat))), some (.dat (.lst ((List.range 8).map fun k => .int (p n A k)))), some (.dat (nums n A)), none, none, none, none, none, none, none, none, none, none]) (by simp [opnds_nilS, opnds_consS, opnd_slot, opnd_ex, ev_var, ev_con, ev_prim, ev_dsp, ev_bop, ev_not, ev_ite, ev_isi, ev_callS, evs_nil, evs_cons, evC_nil, evC_cons, evB_one, evB_more, evT_bop, evT_not, evT_val, evo_var, evo_call', evo_dsp, evo_prim, evo_con, evo_bop, evo_not, evo_ite, evo_isi, getS_0, getS_s, rdAll, rdO, Slot.frz, primF, cmpF, truD, biF_lenT, biF_lenL, biF_tupT, biF_tupL, biF_listT, biF_listL, biF_intI, biF_intB, biF_absI, len_enc, len_row, natI, binF, freshP, isOwn, eqF_int, addI, subI, argS, backA, slotsOf, isiF]) T1) (by simp [opnds_nilS, opnds_consS, opnd_slot, opnd_ex, ev_var, ev_con, ev_prim, ev_dsp, ev_bop, ev_not, ev_ite, ev_isi, ev_callS, evs_nil, evs_cons, evC_nil, evC_cons, evB_one, evB_more, evT_bop, evT_not, evT_val, evo_var, evo_call', evo_dsp, evo_prim, evo_con, evo_bop, evo_not, evo_ite, evo_isi, getS_0, getS_s, rdAll, rdO, Slot.frz, primF, cmpF, truD, biF_lenT, biF_lenL, biF_tupT, biF_tupL, biF_listT, biF_listL, biF_intI, biF_intB, biF_absI, len_enc, len_row, natI, binF, freshP, isOwn, eqF_int, addI, subI, argS, backA, slotsOf, isiF, ixF, a1]) trivial (by decide)) (t_ne (d := .lst (trs n A 7)) (n := 2) (ev_call2o (d := enc n n A) (d' := .int 7) (ρ1 := [some (.dat sc), some (.own st), some (.dat (.int n)), some (.dat (enc n n A)), some (.dat (enc n n B)), some (.dat (enc n n (one n))), some (.dat (.int (w : Nat))), some (.dat (.int (t : Nat))), some (.dat (enc w t F)), some (.dat (enc t w F2)), some (.dat (.int c)), some (.own ((List.range (7 + 1)).map fun k => enc n n (pw n A k))), y, some (.dat (.int (e : Nat))), some (.dat (.lst ((List.range 8).map fun k => .int (p n A k)))), some (.dat (nums n A)), none, none, none, none, none, none, none, none, none, none]) (by simp [opnds_nilS, opnds_consS, opnd_slot, opnd_ex, ev_var, ev_con, ev_prim, ev_dsp, ev_bop, ev_not, ev_ite, ev_isi, ev_callS, evs_nil, evs_cons, evC_nil, evC_cons, evB_one, evB_more, evT_bop, evT_not, evT_val, evo_var, evo_call', evo_dsp, evo_prim, evo_con, evo_bop, evo_not, evo_ite, evo_isi, getS_0, getS_s, rdAll, rdO, Slot.frz, primF, cmpF, truD, biF_lenT, biF_lenL, biF_tupT, biF_tupL, biF_listT, biF_listL, biF_intI, biF_intB, biF_absI, len_enc, len_row, natI, binF, freshP, isOwn, eqF_int, addI, subI, argS, backA, slotsOf, isiF]) (by simp [opnds_nilS, opnds_consS, opnd_slot, opnd_ex, ev_var, ev_con, ev_prim, ev_dsp, ev_bop, ev_not, ev_ite, ev_isi, ev_callS, evs_nil, evs_cons, evC_nil, evC_cons, evB_one, evB_more, evT_bop, evT_not, evT_val, evo_var, evo_call', evo_dsp, evo_prim, evo_con, evo_bop, evo_not, evo_ite, evo_isi, getS_0, getS_s, rdAll, rdO, Slot.frz, primF, cmpF, truD, biF_lenT, biF_lenL, biF_tupT, biF_tupL, biF_listT, biF_listL, biF_intI, biF_intB, biF_absI, len_enc, len_row, natI, binF, freshP, isOwn, eqF_int, addI, subI, argS, backA, slotsOf, isiF]) (w_traces (k := k + 6) hn hA hA2)) e14 pl_trs (by decide)) (t_same (d := .lst (trs n A 7)) (ev_call2o (d := nums n A) (d' := .int 7) (ρ1 := [some (.dat sc), some (.own st), some (.dat (.int n)), some (.dat (enc n n A)), some (.dat (enc n n B)), some (.dat (enc n n (one n))), some (.dat (.int (w : Nat))), some (.dat (.int (t : Nat))), some (.dat (enc w t F)), some (.dat (enc t w F2)), some (.dat (.int c)), some (.own ((List.range (7 + 1)).map fun k => enc n n (pw n A k))), y, some (.dat (.int (e : Nat))), some (.dat (.lst ((List.range 8).map fun k => .int (p n A k)))), some (.dat (nums n A)), none, none, none, none, none, none, none, none, none, none]) (by simp [opnds_nilS, opnds_consS, opnd_slot, opnd_ex, ev_var, ev_con, ev_prim, ev_dsp, ev_bop, ev_not, ev_ite, ev_isi, ev_callS, evs_nil, evs_cons, evC_nil, evC_cons, evB_one, evB_more, evT_bop, evT_not, evT_val, evo_var, evo_call', evo_dsp, evo_prim, evo_con, evo_bop, evo_not, evo_ite, evo_isi, getS_0, getS_s, rdAll, rdO, Slot.frz, primF, cmpF, truD, biF_lenT, biF_lenL, biF_tupT, biF_tupL, biF_listT, biF_listL, biF_intI, biF_intB, biF_absI, len_enc, len_row, natI, binF, freshP, isOwn, eqF_int, addI, subI, argS, backA, slotsOf, isiF]) (by simp [opnds_nilS, opnds_consS, opnd_slot, opnd_ex, ev_var, ev_con, ev_prim, ev_dsp, ev_bop, ev_not, ev_ite, ev_isi, ev_callS, evs_nil, evs_cons, evC_nil, evC_cons, evB_one, evB_more, evT_bop, evT_not, evT_val, evo_var, evo_call', evo_dsp, evo_prim, evo_con, evo_bop, evo_not, evo_ite, evo_isi, getS_0, getS_s, rdAll, rdO, Slot.frz, primF, cmpF, truD, biF_lenT, biF_lenL, biF_tupT, biF_tupL, biF_listT, biF_listL, biF_intI, biF_intB, biF_absI, len_enc, len_row, natI, binF, freshP, isOwn, eqF_int, addI, subI, argS, backA, slotsOf, isiF]) (w_tbn (k := k + 7) hn hA hA2)) e14 pl_trs (by decide))) (fun h => by cases h) (fun _ => ws_nil ?_))
  have D1 := w_det (k := k + 5) hn hA2
  rw [show (if n % 2 = 0 then cc n A n else 0 - cc n A n) = ldF n A from det_all A hn] at D1
  have D2 : callV (sigOf defs (k + 8)) "_law_determinant" [enc n n A] = .ok (.dat (.int (ldF n A))) := by
    have := w_ldet (b := 2) (k := k + 7 - n) (n := n) (f := A) (d := enc n n A) (by decide) (by decide) hn hA2 (.inl rfl)
    rw [show k + 7 - n + n + 1 = k + 8 by omega] at this
    exact this
  have a0 : atI ((List.range (n + 1)).map fun k => D.int (cc n A k)) 0 = some (.int 1) := at_range (n := n + 1) (i := 0) (by omega)
  refine ws_cons (ws_ite (t := false) (ρ1 := [some (.dat sc), some (.own st), some (.dat (.int n)), some (.dat (enc n n A)), some (.dat (enc n n B)), some (.dat (enc n n (one n))), some (.dat (.int (w : Nat))), some (.dat (.int (t : Nat))), some (.dat (enc w t F)), some (.dat (enc t w F2)), some (.dat (.int c)), some (.own ((List.range (7 + 1)).map fun k => enc n n (pw n A k))), y, some (.dat (.int (e : Nat))), some (.dat (.lst ((List.range 8).map fun k => .int (p n A k)))), some (.dat (nums n A)), none, none, none, none, none, none, none, none, none, none]) (or3 (t_ne (d := .int ((n : Int) + 1)) (n := 1) (by simp [opnds_nilS, opnds_consS, opnd_slot, opnd_ex, ev_var, ev_con, ev_prim, ev_dsp, ev_bop, ev_not, ev_ite, ev_isi, ev_callS, evs_nil, evs_cons, evC_nil, evC_cons, evB_one, evB_more, evT_bop, evT_not, evT_val, evo_var, evo_call', evo_dsp, evo_prim, evo_con, evo_bop, evo_not, evo_ite, evo_isi, getS_0, getS_s, rdAll, rdO, Slot.frz, primF, cmpF, truD, biF_lenT, biF_lenL, biF_tupT, biF_tupL, biF_listT, biF_listL, biF_intI, biF_intB, biF_absI, len_enc, len_row, natI, binF, freshP, isOwn, eqF_int, addI, subI, argS, backA, slotsOf, isiF, nums]) (by simp [opnds_nilS, opnds_consS, opnd_slot, opnd_ex, ev_var, ev_con, ev_prim, ev_dsp, ev_bop, ev_not, ev_ite, ev_isi, ev_callS, evs_nil, evs_cons, evC_nil, evC_cons, evB_one, evB_more, evT_bop, evT_not, evT_val, evo_var, evo_call', evo_dsp, evo_prim, evo_con, evo_bop, evo_not, evo_ite, evo_isi, getS_0, getS_s, rdAll, rdO, Slot.frz, primF, cmpF, truD, biF_lenT, biF_lenL, biF_tupT, biF_tupL, biF_listT, biF_listL, biF_intI, biF_intB, biF_absI, len_enc, len_row, natI, binF, freshP, isOwn, eqF_int, addI, subI, argS, backA, slotsOf, isiF]) trivial (by decide)) (t_ne (d := .int 1) (n := 1) (by simp [opnds_nilS, opnds_consS, opnd_slot, opnd_ex, ev_var, ev_con, ev_prim, ev_dsp, ev_bop, ev_not, ev_ite, ev_isi, ev_callS, evs_nil, evs_cons, evC_nil, evC_cons, evB_one, evB_more, evT_bop, evT_not, evT_val, evo_var, evo_call', evo_dsp, evo_prim, evo_con, evo_bop, evo_not, evo_ite, evo_isi, getS_0, getS_s, rdAll, rdO, Slot.frz, primF, cmpF, truD, biF_lenT, biF_lenL, biF_tupT, biF_tupL, biF_listT, biF_listL, biF_intI, biF_intB, biF_absI, len_enc, len_row, natI, binF, freshP, isOwn, eqF_int, addI, subI, argS, backA, slotsOf, isiF, nums, ixF, a0]) (by simp [opnds_nilS, opnds_consS, opnd_slot, opnd_ex, ev_var, ev_con, ev_prim, ev_dsp, ev_bop, ev_not, ev_ite, ev_isi, ev_callS, evs_nil, evs_cons, evC_nil, evC_cons, evB_one, evB_more, evT_bop, evT_not, evT_val, evo_var, evo_call', evo_dsp, evo_prim, evo_con, evo_bop, evo_not, evo_ite, evo_isi, getS_0, getS_s, rdAll, rdO, Slot.frz, primF, cmpF, truD, biF_lenT, biF_lenL, biF_tupT, biF_tupL, biF_listT, biF_listL, biF_intI, biF_intB, biF_absI, len_enc, len_row, natI, binF, freshP, isOwn, eqF_int, addI, subI, argS, backA, slotsOf, isiF]) trivial (by decide)) (t_same (m := 1) (d := .int (ldF n A)) (ev_call1 (d := enc n n A) (ρ1 := [some (.dat sc), some (.own st), some (.dat (.int n)), some (.dat (enc n n A)), some (.dat (enc n n B)), some (.dat (enc n n (one n))), some (.dat (.int (w : Nat))), some (.dat (.int (t : Nat))), some (.dat (enc w t F)), some (.dat (enc t w F2)), some (.dat (.int c)), some (.own ((List.range (7 + 1)).map fun k => enc n n (pw n A k))), y, some (.dat (.int (e : Nat))), some (.dat (.lst ((List.range 8).map fun k => .int (p n A k)))), some (.dat (nums n A)), none, none, none, none, none, none, none, none, none, none]) (by simp [opnds_nilS, opnds_consS, opnd_slot, opnd_ex, ev_var, ev_con, ev_prim, ev_dsp, ev_bop, ev_not, ev_ite, ev_isi, ev_callS, evs_nil, evs_cons, evC_nil, evC_cons, evB_one, evB_more, evT_bop, evT_not, evT_val, evo_var, evo_call', evo_dsp, evo_prim, evo_con, evo_bop, evo_not, evo_ite, evo_isi, getS_0, getS_s, rdAll, rdO, Slot.frz, primF, cmpF, truD, biF_lenT, biF_lenL, biF_tupT, biF_tupL, biF_listT, biF_listL, biF_intI, biF_intB, biF_absI, len_enc, len_row, natI, binF, freshP, isOwn, eqF_int, addI, subI, argS, backA, slotsOf, isiF]) D1) (ev_call1 (d := enc n n A) (ρ1 := [some (.dat sc), some (.own st), some (.dat (.int n)), some (.dat (enc n n A)), some (.dat (enc n n B)), some (.dat (enc n n (one n))), some (.dat (.int (w : Nat))), some (.dat (.int (t : Nat))), some (.dat (enc w t F)), some (.dat (enc t w F2)), some (.dat (.int c)), some (.own ((List.range (7 + 1)).map fun k => enc n n (pw n A k))), y, some (.dat (.int (e : Nat))), some (.dat (.lst ((List.range 8).map fun k => .int (p n A k)))), some (.dat (nums n A)), none, none, none, none, none, none, none, none, none, none]) (by simp [opnds_nilS, opnds_consS, opnd_slot, opnd_ex, ev_var, ev_con, ev_prim, ev_dsp, ev_bop, ev_not, ev_ite, ev_isi, ev_callS, evs_nil, evs_cons, evC_nil, evC_cons, evB_one, evB_more, evT_bop, evT_not, evT_val, evo_var, evo_call', evo_dsp, evo_prim, evo_con, evo_bop, evo_not, evo_ite, evo_isi, getS_0, getS_s, rdAll, rdO, Slot.frz, primF, cmpF, truD, biF_lenT, biF_lenL, biF_tupT, biF_tupL, biF_listT, biF_listL, biF_intI, biF_intB, biF_absI, len_enc, len_row, natI, binF, freshP, isOwn, eqF_int, addI, subI, argS, backA, slotsOf, isiF]) D2) trivial (by decide))) (fun h => by cases h) (fun _ => ws_nil next))
theorem t_neS {G : Sig} {i : Nat} {e2 : E} {ρ : PEnv} {d : D} {n : Nat} (h1 : getS ρ i = some (.dat d)) (h2 : ev G e2 ρ = .ok (d, ρ)) (hp : Pl n d) (hn : n ≤ 64) : evT G (.val (.ex (.prim (.cmp .NotEq) [.slot i, .ex e2]))) ρ = .ok (false, ρ) := by
  rw [evT_val, opnd_ex, ev_prim, opnds_consS, opnd_slot, h1]
  simp only [Out.bind_okS, opnds_consS, opnd_ex, h2, opnds_nilS, rdAll, rdO, h1, Px.Slot.frz, Out.of_someS, primF, cmpF, eqF_refl hp hn, Option.map_some, truD, Bool.not_true]
def hp (n : Nat) (A : M) (x : Int) (t : Nat) : Int := (List.range t).foldl (fun v k => v * x + cc n A k) 0
theorem hp_succ (n : Nat) (A : M) (x : Int) (t : Nat) : hp n A x (t + 1) = hp n A x t * x + cc n A t := by
  unfold hp
  rw [List.range_succ, List.foldl_append]; rfl
theorem bd_hp {n : Nat} {A : M} {x : Nat} (hn : n ≤ 4) (hA : Bd 2 A) (hx : x ≤ 4) : ∀ t, t ≤ 5 → (hp n A x t).natAbs < 2 ^ (51 + 4 * t)
  | 0, _ => by show (0 : Int).natAbs < _; exact Nat.two_pow_pos _
  | t + 1, ht => by
    have h1 := bd_hp hn hA hx t (by omega)
    have h2 := bd_cn hn hA (k := t) (by omega)
    have h3 : (hp n A x t * (x : Int)).natAbs < 2 ^ (51 + 4 * t + 3) := prod_bd h1 (by omega)
    have h4 : (cc n A t).natAbs < 2 ^ (51 + 4 * t + 3) := Nat.lt_of_lt_of_le h2 (Nat.pow_le_pow_right (by decide) (by omega))
    rw [hp_succ]
    exact add_bd h3 h4
/-- the loop over x -/
theorem law_24 {sc : D} {st : List D} {n w t e : Nat} {A B F F2 : M} {c : Int} {y : Option Px.Slot} (hn : n ≤ 4) (hA2 : Bd 2 A)
    (next : ∀ y1 y2 y3 y4, WSs (sigOf defs (k + 8)) (d_law.body.drop 25) [some (.dat sc), some (.own st), some (.dat (.int n)), some (.dat (enc n n A)), some (.dat (enc n n B)), some (.dat (enc n n (one n))), some (.dat (.int (w : Nat))), some (.dat (.int (t : Nat))), some (.dat (enc w t F)), some (.dat (enc t w F2)), some (.dat (.int c)), some (.own ((List.range (7 + 1)).map fun k => enc n n (pw n A k))), y, some (.dat (.int (e : Nat))), some (.dat (.lst ((List.range 8).map fun k => .int (p n A k)))), some (.dat (nums n A)), y1, none, none, y2, y3, y4, none, none, none, none] QT) : WSs (sigOf defs (k + 8)) (d_law.body.drop 24) [some (.dat sc), some (.own st), some (.dat (.int n)), some (.dat (enc n n A)), some (.dat (enc n n B)), some (.dat (enc n n (one n))), some (.dat (.int (w : Nat))), some (.dat (.int (t : Nat))), some (.dat (enc w t F)), some (.dat (enc t w F2)), some (.dat (.int c)), some (.own ((List.range (7 + 1)).map fun k => enc n n (pw n A k))), y, some (.dat (.int (e : Nat))), some (.dat (.lst ((List.range 8).map fun k => .int (p n A k)))), some (.dat (nums n A)), none, none, none, none, none, none, none, none, none, none] QT := by
  have L1 : n < lim := lt_lim (by omega)
  have L2 : n + 1 < lim := lt_lim (by omega)
  refine ws_cons (ws_loop (L := List.range (n + 1)) (ds := [.int ((n + 1 : Nat) : Int)]) (ρ1 := [some (.dat sc), some (.own st), some (.dat (.int n)), some (.dat (enc n n A)), some (.dat (enc n n B)), some (.dat (enc n n (one n))), some (.dat (.int (w : Nat))), some (.dat (.int (t : Nat))), some (.dat (enc w t F)), some (.dat (enc t w F2)), some (.dat (.int c)), some (.own ((List.range (7 + 1)).map fun k => enc n n (pw n A k))), y, some (.dat (.int (e : Nat))), some (.dat (.lst ((List.range 8).map fun k => .int (p n A k)))), some (.dat (nums n A)), none, none, none, none, none, none, none, none, none, none]) (fun j => .int (j : Int)) (fun xs ρ => ∃ y1 y2 y3 y4, (∀ x ∈ xs, x ≤ n) ∧ ρ = [some (.dat sc), some (.own st), some (.dat (.int n)), some (.dat (enc n n A)), some (.dat (enc n n B)), some (.dat (enc n n (one n))), some (.dat (.int (w : Nat))), some (.dat (.int (t : Nat))), some (.dat (enc w t F)), some (.dat (enc t w F2)), some (.dat (.int c)), some (.own ((List.range (7 + 1)).map fun k => enc n n (pw n A k))), y, some (.dat (.int (e : Nat))), some (.dat (.lst ((List.range 8).map fun k => .int (p n A k)))), some (.dat (nums n A)), y1, none, none, y2, y3, y4, none, none, none, none]) (by simp [opnds_nilS, opnds_consS, opnd_slot, opnd_ex, ev_var, ev_con, ev_prim, ev_dsp, ev_bop, ev_not, ev_ite, ev_isi, ev_callS, evs_nil, evs_cons, evC_nil, evC_cons, evB_one, evB_more, evT_bop, evT_not, evT_val, evo_var, evo_call', evo_dsp, evo_prim, evo_con, evo_bop, evo_not, evo_ite, evo_isi, getS_0, getS_s, rdAll, rdO, Slot.frz, primF, cmpF, truD, biF_lenT, biF_lenL, biF_tupT, biF_tupL, biF_listT, biF_listL, biF_intI, biF_intB, biF_absI, len_enc, len_row, natI, binF, freshP, isOwn, eqF_int, addI, subI, argS, backA, slotsOf, isiF]) (rng_nat (n := n + 1) (Nat.le_of_lt L2)) rfl ⟨none, none, none, none, fun x hx => by have := List.mem_range.mp hx; omega, rfl⟩ (fun x xs ρ h => ?_) (fun ρ h => ?_))
  · obtain ⟨y1, y2, y3, y4, hx, rfl⟩ := h
    have hxn : x ≤ n := hx x (List.mem_cons_self ..)
    have hxs : ∀ x ∈ xs, x ≤ n := fun z hz => hx z (List.mem_cons_of_mem _ hz)
    clear hx
    refine ⟨_, rfl, ?_⟩
    refine ws_cons (ws_set (ρ1 := [some (.dat sc), some (.own st), some (.dat (.int n)), some (.dat (enc n n A)), some (.dat (enc n n B)), some (.dat (enc n n (one n))), some (.dat (.int (w : Nat))), some (.dat (.int (t : Nat))), some (.dat (enc w t F)), some (.dat (enc t w F2)), some (.dat (.int c)), some (.own ((List.range (7 + 1)).map fun k => enc n n (pw n A k))), y, some (.dat (.int (e : Nat))), some (.dat (.lst ((List.range 8).map fun k => .int (p n A k)))), some (.dat (nums n A)), some (.dat (.int (x : Int))), none, none, y2, y3, y4, none, none, none, none]) (d := .int 0) (by simp [opnds_nilS, opnds_consS, opnd_slot, opnd_ex, ev_var, ev_con, ev_prim, ev_dsp, ev_bop, ev_not, ev_ite, ev_isi, ev_callS, evs_nil, evs_cons, evC_nil, evC_cons, evB_one, evB_more, evT_bop, evT_not, evT_val, evo_var, evo_call', evo_dsp, evo_prim, evo_con, evo_bop, evo_not, evo_ite, evo_isi, getS_0, getS_s, rdAll, rdO, Slot.frz, primF, cmpF, truD, biF_lenT, biF_lenL, biF_tupT, biF_tupL, biF_listT, biF_listL, biF_intI, biF_intB, biF_absI, len_enc, len_row, natI, binF, freshP, isOwn, eqF_int, addI, subI, argS, backA, slotsOf, isiF]) ?_)
    refine ws_cons (ws_loop (L := List.range (n + 1)) (ds := [nums n A]) (ρ1 := [some (.dat sc), some (.own st), some (.dat (.int n)), some (.dat (enc n n A)), some (.dat (enc n n B)), some (.dat (enc n n (one n))), some (.dat (.int (w : Nat))), some (.dat (.int (t : Nat))), some (.dat (enc w t F)), some (.dat (enc t w F2)), some (.dat (.int c)), some (.own ((List.range (7 + 1)).map fun k => enc n n (pw n A k))), y, some (.dat (.int (e : Nat))), some (.dat (.lst ((List.range 8).map fun k => .int (p n A k)))), some (.dat (nums n A)), some (.dat (.int (x : Int))), none, none, some (.dat (.int 0)), y3, y4, none, none, none, none]) (fun j => .int (cc n A j)) (fun xs ρ => ∃ y3 z, xs = (List.range (n + 1)).drop z ∧ z ≤ n + 1 ∧ ρ = [some (.dat sc), some (.own st), some (.dat (.int n)), some (.dat (enc n n A)), some (.dat (enc n n B)), some (.dat (enc n n (one n))), some (.dat (.int (w : Nat))), some (.dat (.int (t : Nat))), some (.dat (enc w t F)), some (.dat (enc t w F2)), some (.dat (.int c)), some (.own ((List.range (7 + 1)).map fun k => enc n n (pw n A k))), y, some (.dat (.int (e : Nat))), some (.dat (.lst ((List.range 8).map fun k => .int (p n A k)))), some (.dat (nums n A)), some (.dat (.int (x : Int))), none, none, some (.dat (.int (hp n A x z))), y3, y4, none, none, none, none]) (by simp [opnds_nilS, opnds_consS, opnd_slot, opnd_ex, ev_var, ev_con, ev_prim, ev_dsp, ev_bop, ev_not, ev_ite, ev_isi, ev_callS, evs_nil, evs_cons, evC_nil, evC_cons, evB_one, evB_more, evT_bop, evT_not, evT_val, evo_var, evo_call', evo_dsp, evo_prim, evo_con, evo_bop, evo_not, evo_ite, evo_isi, getS_0, getS_s, rdAll, rdO, Slot.frz, primF, cmpF, truD, biF_lenT, biF_lenL, biF_tupT, biF_tupL, biF_listT, biF_listL, biF_intI, biF_intB, biF_absI, len_enc, len_row, natI, binF, freshP, isOwn, eqF_int, addI, subI, argS, backA, slotsOf, isiF]) rfl rfl ⟨y3, 0, rfl, Nat.zero_le _, rfl⟩ (fun j ys ρ h => ?_) (fun ρ h => ?_))
    · obtain ⟨y3, z, ez, hz, rfl⟩ := h
      have hz' : z < n + 1 := by
        rcases Nat.lt_or_ge z (n + 1) with c | c
        · exact c
        · rw [List.drop_eq_nil_of_le (by rw [List.length_range]; exact c)] at ez; cases ez
      rw [List.drop_eq_getElem_cons (by rw [List.length_range]; exact hz')] at ez
      simp only [List.getElem_range, List.cons.injEq] at ez
      obtain ⟨rfl, rfl⟩ := ez
      generalize hzz : j = z
      have hm : binI .Mult (hp n A x z) (x : Int) = some (hp n A x z * x) := by
        subst hzz
        exact mulI (b := 3) (bd_hp hn hA2 (by omega) j (by omega)) (by omega) (by omega) (by decide) (by omega)
      refine ⟨[some (.dat sc), some (.own st), some (.dat (.int n)), some (.dat (enc n n A)), some (.dat (enc n n B)), some (.dat (enc n n (one n))), some (.dat (.int (w : Nat))), some (.dat (.int (t : Nat))), some (.dat (enc w t F)), some (.dat (enc t w F2)), some (.dat (.int c)), some (.own ((List.range (7 + 1)).map fun k => enc n n (pw n A k))), y, some (.dat (.int (e : Nat))), some (.dat (.lst ((List.range 8).map fun k => .int (p n A k)))), some (.dat (nums n A)), some (.dat (.int (x : Int))), none, none, some (.dat (.int (hp n A x z))), some (.dat (.int (cc n A z))), y4, none, none, none, none], rfl, ws_cons (ws_set (ρ1 := [some (.dat sc), some (.own st), some (.dat (.int n)), some (.dat (enc n n A)), some (.dat (enc n n B)), some (.dat (enc n n (one n))), some (.dat (.int (w : Nat))), some (.dat (.int (t : Nat))), some (.dat (enc w t F)), some (.dat (enc t w F2)), some (.dat (.int c)), some (.own ((List.range (7 + 1)).map fun k => enc n n (pw n A k))), y, some (.dat (.int (e : Nat))), some (.dat (.lst ((List.range 8).map fun k => .int (p n A k)))), some (.dat (nums n A)), some (.dat (.int (x : Int))), none, none, some (.dat (.int (hp n A x z))), some (.dat (.int (cc n A z))), y4, none, none, none, none]) (d := .int (hp n A x (z + 1))) ?_ (ws_nil ⟨rfl, some (.dat (.int (cc n A z))), z + 1, rfl, by omega, rfl⟩))⟩
      rw [hp_succ]
      simp [opnds_nilS, opnds_consS, opnd_slot, opnd_ex, ev_var, ev_con, ev_prim, ev_dsp, ev_bop, ev_not, ev_ite, ev_isi, ev_callS, evs_nil, evs_cons, evC_nil, evC_cons, evB_one, evB_more, evT_bop, evT_not, evT_val, evo_var, evo_call', evo_dsp, evo_prim, evo_con, evo_bop, evo_not, evo_ite, evo_isi, getS_0, getS_s, rdAll, rdO, Slot.frz, primF, cmpF, truD, biF_lenT, biF_lenL, biF_tupT, biF_tupL, biF_listT, biF_listL, biF_intI, biF_intB, biF_absI, len_enc, len_row, natI, binF, freshP, isOwn, eqF_int, addI, subI, argS, backA, slotsOf, isiF, hm]
    · obtain ⟨y3, z, ez, hz, rfl⟩ := h
      have : z = n + 1 := by
        have := congrArg List.length ez
        simp at this; omega
      subst this
      have hh : hp n A x (n + 1) = hor n A x := rfl
      rw [hh]
      refine ws_cons (ws_set (ev_tab (ρ := [some (.dat sc), some (.own st), some (.dat (.int n)), some (.dat (enc n n A)), some (.dat (enc n n B)), some (.dat (enc n n (one n))), some (.dat (.int (w : Nat))), some (.dat (.int (t : Nat))), some (.dat (enc w t F)), some (.dat (enc t w F2)), some (.dat (.int c)), some (.own ((List.range (7 + 1)).map fun k => enc n n (pw n A k))), y, some (.dat (.int (e : Nat))), some (.dat (.lst ((List.range 8).map fun k => .int (p n A k)))), some (.dat (nums n A)), some (.dat (.int (x : Int))), none, none, some (.dat (.int (hor n A x))), y3, y4, none, none, none, none]) (n := n) (m := n) (ch' A x) L1 L1 rfl (fun _ => rfl) (by simp [opnds_nilS, opnds_consS, opnd_slot, opnd_ex, ev_var, ev_con, ev_prim, ev_dsp, ev_bop, ev_not, ev_ite, ev_isi, ev_callS, evs_nil, evs_cons, evC_nil, evC_cons, evB_one, evB_more, evT_bop, evT_not, evT_val, evo_var, evo_call', evo_dsp, evo_prim, evo_con, evo_bop, evo_not, evo_ite, evo_isi, getS_0, getS_s, rdAll, rdO, Slot.frz, primF, cmpF, truD, biF_lenT, biF_lenL, biF_tupT, biF_tupL, biF_listT, biF_listL, biF_intI, biF_intB, biF_absI, len_enc, len_row, natI, binF, freshP, isOwn, eqF_int, addI, subI, argS, backA, slotsOf, isiF]) (fun i hi => by simp [opnds_nilS, opnds_consS, opnd_slot, opnd_ex, ev_var, ev_con, ev_prim, ev_dsp, ev_bop, ev_not, ev_ite, ev_isi, ev_callS, evs_nil, evs_cons, evC_nil, evC_cons, evB_one, evB_more, evT_bop, evT_not, evT_val, evo_var, evo_call', evo_dsp, evo_prim, evo_con, evo_bop, evo_not, evo_ite, evo_isi, getS_0, getS_s, rdAll, rdO, Slot.frz, primF, cmpF, truD, biF_lenT, biF_lenL, biF_tupT, biF_tupL, biF_listT, biF_listL, biF_intI, biF_intB, biF_absI, len_enc, len_row, natI, binF, freshP, isOwn, eqF_int, addI, subI, argS, backA, slotsOf, isiF]) (fun i hi j hj => ?_)) ?_)
      · have hm : binI .Mult (x : Int) (if i = j then 1 else 0) = some ((x : Int) * if i = j then 1 else 0) := mulI (a := 3) (b := 1) (by omega) (by split <;> decide) (by decide) (by decide) (by decide)
        simp [opnds_nilS, opnds_consS, opnd_slot, opnd_ex, ev_var, ev_con, ev_prim, ev_dsp, ev_bop, ev_not, ev_ite, ev_isi, ev_callS, evs_nil, evs_cons, evC_nil, evC_cons, evB_one, evB_more, evT_bop, evT_not, evT_val, evo_var, evo_call', evo_dsp, evo_prim, evo_con, evo_bop, evo_not, evo_ite, evo_isi, getS_0, getS_s, rdAll, rdO, Slot.frz, primF, cmpF, truD, biF_lenT, biF_lenL, biF_tupT, biF_tupL, biF_listT, biF_listL, biF_intI, biF_intB, biF_absI, len_enc, len_row, natI, binF, freshP, isOwn, eqF_int, addI, subI, argS, backA, slotsOf, isiF, ix_enc hi, ix_row hj, hm, ch']
      have D2 : callV (sigOf defs (k + 8)) "_law_determinant" [enc n n (ch' A x)] = .ok (.dat (.int (ldF n (ch' A x)))) := by
        have hb : Bd 5 (ch' A x) := fun i j => by
          have := hA2 i j
          show ((x : Int) * (if i = j then 1 else 0) - A i j).natAbs < 2 ^ 5
          split <;> omega
        have := w_ldet (b := 5) (k := k + 7 - n) (n := n) (f := ch' A x) (d := enc n n (ch' A x)) (by decide) (by decide) hn hb (.inl rfl)
        rw [show k + 7 - n + n + 1 = k + 8 by omega] at this
        exact this
      rw [← chr_all A x hn] at D2
      exact ws_cons (ws_ite (t := false) (ρ1 := [some (.dat sc), some (.own st), some (.dat (.int n)), some (.dat (enc n n A)), some (.dat (enc n n B)), some (.dat (enc n n (one n))), some (.dat (.int (w : Nat))), some (.dat (.int (t : Nat))), some (.dat (enc w t F)), some (.dat (enc t w F2)), some (.dat (.int c)), some (.own ((List.range (7 + 1)).map fun k => enc n n (pw n A k))), y, some (.dat (.int (e : Nat))), some (.dat (.lst ((List.range 8).map fun k => .int (p n A k)))), some (.dat (nums n A)), some (.dat (.int (x : Int))), none, none, some (.dat (.int (hor n A x))), y3, some (.dat (enc n n (ch' A x))), none, none, none, none]) (t_neS (d := .int (hor n A x)) (n := 1) rfl (ev_call1 (d := enc n n (ch' A x)) (ρ1 := [some (.dat sc), some (.own st), some (.dat (.int n)), some (.dat (enc n n A)), some (.dat (enc n n B)), some (.dat (enc n n (one n))), some (.dat (.int (w : Nat))), some (.dat (.int (t : Nat))), some (.dat (enc w t F)), some (.dat (enc t w F2)), some (.dat (.int c)), some (.own ((List.range (7 + 1)).map fun k => enc n n (pw n A k))), y, some (.dat (.int (e : Nat))), some (.dat (.lst ((List.range 8).map fun k => .int (p n A k)))), some (.dat (nums n A)), some (.dat (.int (x : Int))), none, none, some (.dat (.int (hor n A x))), y3, some (.dat (enc n n (ch' A x))), none, none, none, none]) (by simp [opnds_nilS, opnds_consS, opnd_slot, opnd_ex, ev_var, ev_con, ev_prim, ev_dsp, ev_bop, ev_not, ev_ite, ev_isi, ev_callS, evs_nil, evs_cons, evC_nil, evC_cons, evB_one, evB_more, evT_bop, evT_not, evT_val, evo_var, evo_call', evo_dsp, evo_prim, evo_con, evo_bop, evo_not, evo_ite, evo_isi, getS_0, getS_s, rdAll, rdO, Slot.frz, primF, cmpF, truD, biF_lenT, biF_lenL, biF_tupT, biF_tupL, biF_listT, biF_listL, biF_intI, biF_intB, biF_absI, len_enc, len_row, natI, binF, freshP, isOwn, eqF_int, addI, subI, argS, backA, slotsOf, isiF]) D2) trivial (by decide)) (fun h => by cases h) (fun _ => ws_nil (ws_nil ⟨rfl, some (.dat (.int (x : Int))), some (.dat (.int (hor n A x))), y3, some (.dat (enc n n (ch' A x))), hxs, rfl⟩)))
  · obtain ⟨y1, y2, y3, y4, _, rfl⟩ := h
    exact next y1 y2 y3 y4
def odds (n : Nat) (A : M) : List D := [.non, .lst ((List.range n).map (row n A)), .tup ((List.range n).map (row n A) ++ [row n (fun _ _ => 0) 0]), .tup [.tup [.int 1, .int 2]], .tup [.tup [.bl true]], .tup [.lst [.int 1]]]
theorem mul0 {n i : Nat} (hn : n ≤ 4) : binF .Mult (.tup [.int 0]) (.int (n : Int)) = some (row n (fun _ _ => 0) i) := by
  rcases le4 hn with rfl | rfl | rfl | rfl | rfl <;> rfl
theorem nil_eq {n : Nat} {A : M} (hn : n ≤ 4) (hA : Sup n A) : ((List.range n).all fun i => (List.range n).all fun j => decide (pw n A n i j = 0)) = ((List.range n).all fun j => decide (cc n A (j + 1) = 0)) := by
  rw [Bool.eq_iff_iff]
  simp only [List.all_eq_true, List.mem_range, decide_eq_true_eq]
  constructor
  · intro h
    exact nil_to hn hA (sup_zero (sup_pw hA n) h)
  · intro h i _ j _
    rw [nil_of hn hA h]
/-- from the zero table on -/
theorem law_25 {sc : D} {st : List D} {n w t e : Nat} {A B F F2 : M} {c : Int} {y y1 y2 y3 y4 : Option Px.Slot} (hy : isOwn y = false) (hn : n ≤ 4) (hA : Sup n A) (hA2 : Bd 2 A)
    (next : WSs (sigOf defs (k + 8)) (d_law.body.drop 27) [some (.dat sc), some (.own st), some (.dat (.int n)), some (.dat (enc n n A)), some (.dat (enc n n B)), some (.dat (enc n n (one n))), some (.dat (.int (w : Nat))), some (.dat (.int (t : Nat))), some (.dat (enc w t F)), some (.dat (enc t w F2)), some (.dat (.int c)), some (.own ((List.range (7 + 1)).map fun k => enc n n (pw n A k))), y, some (.dat (.int (e : Nat))), some (.dat (.lst ((List.range 8).map fun k => .int (p n A k)))), some (.dat (nums n A)), y1, some (.dat (enc n n fun _ _ => 0)), none, y2, y3, y4, none, none, none, none] QT) : WSs (sigOf defs (k + 8)) (d_law.body.drop 25) [some (.dat sc), some (.own st), some (.dat (.int n)), some (.dat (enc n n A)), some (.dat (enc n n B)), some (.dat (enc n n (one n))), some (.dat (.int (w : Nat))), some (.dat (.int (t : Nat))), some (.dat (enc w t F)), some (.dat (enc t w F2)), some (.dat (.int c)), some (.own ((List.range (7 + 1)).map fun k => enc n n (pw n A k))), y, some (.dat (.int (e : Nat))), some (.dat (.lst ((List.range 8).map fun k => .int (p n A k)))), some (.dat (nums n A)), y1, none, none, y2, y3, y4, none, none, none, none] QT := by
  have L1 : n < lim := lt_lim (by omega)
  have hz : ev (sigOf defs (k + 8)) (.prim (.bi .tuple) [.ex (.comp [12] (false, [12]) .rng [.var 2] [] (.prim (.bin .Mult) [.ex (.dsp true [.con (.int 0)]), .slot 2]))]) [some (.dat sc), some (.own st), some (.dat (.int n)), some (.dat (enc n n A)), some (.dat (enc n n B)), some (.dat (enc n n (one n))), some (.dat (.int (w : Nat))), some (.dat (.int (t : Nat))), some (.dat (enc w t F)), some (.dat (enc t w F2)), some (.dat (.int c)), some (.own ((List.range (7 + 1)).map fun k => enc n n (pw n A k))), y, some (.dat (.int (e : Nat))), some (.dat (.lst ((List.range 8).map fun k => .int (p n A k)))), some (.dat (nums n A)), y1, none, none, y2, y3, y4, none, none, none, none] = .ok (enc n n fun _ _ => 0, [some (.dat sc), some (.own st), some (.dat (.int n)), some (.dat (enc n n A)), some (.dat (enc n n B)), some (.dat (enc n n (one n))), some (.dat (.int (w : Nat))), some (.dat (.int (t : Nat))), some (.dat (enc w t F)), some (.dat (enc t w F2)), some (.dat (.int c)), some (.own ((List.range (7 + 1)).map fun k => enc n n (pw n A k))), y, some (.dat (.int (e : Nat))), some (.dat (.lst ((List.range 8).map fun k => .int (p n A k)))), some (.dat (nums n A)), y1, none, none, y2, y3, y4, none, none, none, none]) := by
    refine ev_tupC (ev_cmp2 (L := List.range n) (ds := [.int n]) (fun j => .int (j : Int)) (row n fun _ _ => 0) (by simp [opnds_nilS, opnds_consS, opnd_slot, opnd_ex, ev_var, ev_con, ev_prim, ev_dsp, ev_bop, ev_not, ev_ite, ev_isi, ev_callS, evs_nil, evs_cons, evC_nil, evC_cons, evB_one, evB_more, evT_bop, evT_not, evT_val, evo_var, evo_call', evo_dsp, evo_prim, evo_con, evo_bop, evo_not, evo_ite, evo_isi, getS_0, getS_s, rdAll, rdO, Slot.frz, primF, cmpF, truD, biF_lenT, biF_lenL, biF_tupT, biF_tupL, biF_listT, biF_listL, biF_intI, biF_intB, biF_absI, len_enc, len_row, natI, binF, freshP, isOwn, eqF_int, addI, subI, argS, backA, slotsOf, isiF]) (rng_nat (n := n) (Nat.le_of_lt L1)) hy rfl (fun _ => rfl) (by rw [List.length_range]; exact L1) (fun i hi => ?_))
    have e1 : ev (sigOf defs (k + 8)) (.dsp true [.con (.int 0)]) [some (.dat sc), some (.own st), some (.dat (.int n)), some (.dat (enc n n A)), some (.dat (enc n n B)), some (.dat (enc n n (one n))), some (.dat (.int (w : Nat))), some (.dat (.int (t : Nat))), some (.dat (enc w t F)), some (.dat (enc t w F2)), some (.dat (.int c)), some (.own ((List.range (7 + 1)).map fun k => enc n n (pw n A k))), some (.dat (.int (i : Int))), some (.dat (.int (e : Nat))), some (.dat (.lst ((List.range 8).map fun k => .int (p n A k)))), some (.dat (nums n A)), y1, none, none, y2, y3, y4, none, none, none, none] = .ok (.tup [.int 0], [some (.dat sc), some (.own st), some (.dat (.int n)), some (.dat (enc n n A)), some (.dat (enc n n B)), some (.dat (enc n n (one n))), some (.dat (.int (w : Nat))), some (.dat (.int (t : Nat))), some (.dat (enc w t F)), some (.dat (enc t w F2)), some (.dat (.int c)), some (.own ((List.range (7 + 1)).map fun k => enc n n (pw n A k))), some (.dat (.int (i : Int))), some (.dat (.int (e : Nat))), some (.dat (.lst ((List.range 8).map fun k => .int (p n A k)))), some (.dat (nums n A)), y1, none, none, y2, y3, y4, none, none, none, none]) := by
      rw [ev_dsp, evs_one, ev_con]
      simp only [Out.bind_okS]
      exact if_pos (Nat.le_of_lt (lt_lim (n := 1) (by decide)))
    have e2 := mul0 (i := i) hn
    show ev (sigOf defs (k + 8)) _ [some (.dat sc), some (.own st), some (.dat (.int n)), some (.dat (enc n n A)), some (.dat (enc n n B)), some (.dat (enc n n (one n))), some (.dat (.int (w : Nat))), some (.dat (.int (t : Nat))), some (.dat (enc w t F)), some (.dat (enc t w F2)), some (.dat (.int c)), some (.own ((List.range (7 + 1)).map fun k => enc n n (pw n A k))), some (.dat (.int (i : Int))), some (.dat (.int (e : Nat))), some (.dat (.lst ((List.range 8).map fun k => .int (p n A k)))), some (.dat (nums n A)), y1, none, none, y2, y3, y4, none, none, none, none] = .ok (_, [some (.dat sc), some (.own st), some (.dat (.int n)), some (.dat (enc n n A)), some (.dat (enc n n B)), some (.dat (enc n n (one n))), some (.dat (.int (w : Nat))), some (.dat (.int (t : Nat))), some (.dat (enc w t F)), some (.dat (enc t w F2)), some (.dat (.int c)), some (.own ((List.range (7 + 1)).map fun k => enc n n (pw n A k))), some (.dat (.int (i : Int))), some (.dat (.int (e : Nat))), some (.dat (.lst ((List.range 8).map fun k => .int (p n A k)))), some (.dat (nums n A)), y1, none, none, y2, y3, y4, none, none, none, none])
    rw [ev_prim, opnds_consS, opnd_ex, e1, Out.bind_okS, Out.bind_okS, opnds_consS, opnd_slot]
    simp only [getS_0, getS_s, Out.bind_okS, opnds_nilS, rdAll, rdO, Px.Slot.frz, Out.of_someS, primF, e2]
  refine ws_cons (ws_set hz ?_)
  have al := at_range (φ := fun k => enc n n (pw n A k)) (n := 7 + 1) (i := n) (by omega)
  have e3 : ev (sigOf defs (k + 8)) (.prim (.cmp .Eq) [.ex (.prim .ix [.slot 11, .slot 2]), .slot 17]) [some (.dat sc), some (.own st), some (.dat (.int n)), some (.dat (enc n n A)), some (.dat (enc n n B)), some (.dat (enc n n (one n))), some (.dat (.int (w : Nat))), some (.dat (.int (t : Nat))), some (.dat (enc w t F)), some (.dat (enc t w F2)), some (.dat (.int c)), some (.own ((List.range (7 + 1)).map fun k => enc n n (pw n A k))), y, some (.dat (.int (e : Nat))), some (.dat (.lst ((List.range 8).map fun k => .int (p n A k)))), some (.dat (nums n A)), y1, some (.dat (enc n n fun _ _ => 0)), none, y2, y3, y4, none, none, none, none] = .ok (.bl ((List.range n).all fun j => decide (cc n A (j + 1) = 0)), [some (.dat sc), some (.own st), some (.dat (.int n)), some (.dat (enc n n A)), some (.dat (enc n n B)), some (.dat (enc n n (one n))), some (.dat (.int (w : Nat))), some (.dat (.int (t : Nat))), some (.dat (enc w t F)), some (.dat (enc t w F2)), some (.dat (.int c)), some (.own ((List.range (7 + 1)).map fun k => enc n n (pw n A k))), y, some (.dat (.int (e : Nat))), some (.dat (.lst ((List.range 8).map fun k => .int (p n A k)))), some (.dat (nums n A)), y1, some (.dat (enc n n fun _ _ => 0)), none, y2, y3, y4, none, none, none, none]) := by
    have e4 := eqF_enc (n := n) (m := n) (f := pw n A n) (g := fun _ _ => 0) L1 L1
    rw [nil_eq hn hA] at e4
    have e5 : ev (sigOf defs (k + 8)) (.prim .ix [.slot 11, .slot 2]) [some (.dat sc), some (.own st), some (.dat (.int n)), some (.dat (enc n n A)), some (.dat (enc n n B)), some (.dat (enc n n (one n))), some (.dat (.int (w : Nat))), some (.dat (.int (t : Nat))), some (.dat (enc w t F)), some (.dat (enc t w F2)), some (.dat (.int c)), some (.own ((List.range (7 + 1)).map fun k => enc n n (pw n A k))), y, some (.dat (.int (e : Nat))), some (.dat (.lst ((List.range 8).map fun k => .int (p n A k)))), some (.dat (nums n A)), y1, some (.dat (enc n n fun _ _ => 0)), none, y2, y3, y4, none, none, none, none] = .ok (enc n n (pw n A n), [some (.dat sc), some (.own st), some (.dat (.int n)), some (.dat (enc n n A)), some (.dat (enc n n B)), some (.dat (enc n n (one n))), some (.dat (.int (w : Nat))), some (.dat (.int (t : Nat))), some (.dat (enc w t F)), some (.dat (enc t w F2)), some (.dat (.int c)), some (.own ((List.range (7 + 1)).map fun k => enc n n (pw n A k))), y, some (.dat (.int (e : Nat))), some (.dat (.lst ((List.range 8).map fun k => .int (p n A k)))), some (.dat (nums n A)), y1, some (.dat (enc n n fun _ _ => 0)), none, y2, y3, y4, none, none, none, none]) := by
      rw [ev_prim]
      simp [opnds_nilS, opnds_consS, opnd_slot, opnd_ex, ev_var, ev_con, ev_prim, ev_dsp, ev_bop, ev_not, ev_ite, ev_isi, ev_callS, evs_nil, evs_cons, evC_nil, evC_cons, evB_one, evB_more, evT_bop, evT_not, evT_val, evo_var, evo_call', evo_dsp, evo_prim, evo_con, evo_bop, evo_not, evo_ite, evo_isi, getS_0, getS_s, rdAll, rdO, Slot.frz, primF, cmpF, truD, biF_lenT, biF_lenL, biF_tupT, biF_tupL, biF_listT, biF_listL, biF_intI, biF_intB, biF_absI, len_enc, len_row, natI, binF, freshP, isOwn, eqF_int, addI, subI, argS, backA, slotsOf, isiF, ixF, al]
    rw [ev_prim, opnds_consS, opnd_ex, e5, Out.bind_okS, Out.bind_okS, opnds_consS, opnd_slot]
    simp only [getS_0, getS_s, Out.bind_okS, opnds_nilS, rdAll, rdO, Px.Slot.frz, Out.of_someS, primF, cmpF, e4, Option.map_some]
  exact ws_cons (ws_ite (t := false) (ρ1 := [some (.dat sc), some (.own st), some (.dat (.int n)), some (.dat (enc n n A)), some (.dat (enc n n B)), some (.dat (enc n n (one n))), some (.dat (.int (w : Nat))), some (.dat (.int (t : Nat))), some (.dat (enc w t F)), some (.dat (enc t w F2)), some (.dat (.int c)), some (.own ((List.range (7 + 1)).map fun k => enc n n (pw n A k))), y, some (.dat (.int (e : Nat))), some (.dat (.lst ((List.range 8).map fun k => .int (p n A k)))), some (.dat (nums n A)), y1, some (.dat (enc n n fun _ _ => 0)), none, y2, y3, y4, none, none, none, none]) (t_same (m := 1) (d := .bl ((List.range n).all fun j => decide (cc n A (j + 1) = 0))) (ev_call1 (d := enc n n A) (ρ1 := [some (.dat sc), some (.own st), some (.dat (.int n)), some (.dat (enc n n A)), some (.dat (enc n n B)), some (.dat (enc n n (one n))), some (.dat (.int (w : Nat))), some (.dat (.int (t : Nat))), some (.dat (enc w t F)), some (.dat (enc t w F2)), some (.dat (.int c)), some (.own ((List.range (7 + 1)).map fun k => enc n n (pw n A k))), y, some (.dat (.int (e : Nat))), some (.dat (.lst ((List.range 8).map fun k => .int (p n A k)))), some (.dat (nums n A)), y1, some (.dat (enc n n fun _ _ => 0)), none, y2, y3, y4, none, none, none, none]) (by simp [opnds_nilS, opnds_consS, opnd_slot, opnd_ex, ev_var, ev_con, ev_prim, ev_dsp, ev_bop, ev_not, ev_ite, ev_isi, ev_callS, evs_nil, evs_cons, evC_nil, evC_cons, evB_one, evB_more, evT_bop, evT_not, evT_val, evo_var, evo_call', evo_dsp, evo_prim, evo_con, evo_bop, evo_not, evo_ite, evo_isi, getS_0, getS_s, rdAll, rdO, Slot.frz, primF, cmpF, truD, biF_lenT, biF_lenL, biF_tupT, biF_tupL, biF_listT, biF_listL, biF_intI, biF_intB, biF_absI, len_enc, len_row, natI, binF, freshP, isOwn, eqF_int, addI, subI, argS, backA, slotsOf, isiF]) (w_nil (k := k + 5) hn hA2)) e3 trivial (by decide)) (fun h => by cases h) (fun _ => ws_nil next))
theorem dsp1 {G : Sig} {b : Bool} {e : E} {ρ : PEnv} {d : D} (h : ev G e ρ = .ok (d, ρ)) : ev G (.dsp b [e]) ρ = .ok (if b then .tup [d] else .lst [d], ρ) := by
  rw [ev_dsp, evs_one, h]
  simp only [Out.bind_okS]
  exact if_pos (Nat.le_of_lt (lt_lim (n := 1) (by decide)))
theorem odd_no {n d : Nat} {A : M} (hd : d < 6) : ∃ o, atI (odds n A) (d : Int) = some o ∧ callV (sigOf defs (k + 1)) "is_square" [o] = .ok (.dat (.bl false)) := by
  obtain rfl | rfl | rfl | rfl | rfl | rfl : d = 0 ∨ d = 1 ∨ d = 2 ∨ d = 3 ∨ d = 4 ∨ d = 5 := by omega
  · exact ⟨_, atI_nat rfl, nsq_no rfl⟩
  · exact ⟨_, atI_nat rfl, nsq_no rfl⟩
  · refine ⟨_, atI_nat rfl, ?_⟩
    cases n with
    | zero => exact nsq_len (ys := []) (xs := []) (by decide)
    | succ n =>
      rw [List.range_succ_eq_map, List.map_cons, List.cons_append]
      exact nsq_len (by simp)
  · exact ⟨_, atI_nat rfl, nsq_len (by decide)⟩
  · exact ⟨_, atI_nat rfl, nsq_bl⟩
  · exact ⟨_, atI_nat rfl, nsq_lst⟩
theorem law_27 {sc : D} {st : List D} {n w t e : Nat} {A B F F2 : M} {c : Int} {y y1 y2 y3 y4 : Option Px.Slot} (hst : Good st) (hn : n ≤ 4) : WSs (sigOf defs (k + 8)) (d_law.body.drop 27) [some (.dat sc), some (.own st), some (.dat (.int n)), some (.dat (enc n n A)), some (.dat (enc n n B)), some (.dat (enc n n (one n))), some (.dat (.int (w : Nat))), some (.dat (.int (t : Nat))), some (.dat (enc w t F)), some (.dat (enc t w F2)), some (.dat (.int c)), some (.own ((List.range (7 + 1)).map fun k => enc n n (pw n A k))), y, some (.dat (.int (e : Nat))), some (.dat (.lst ((List.range 8).map fun k => .int (p n A k)))), some (.dat (nums n A)), y1, some (.dat (enc n n fun _ _ => 0)), none, y2, y3, y4, none, none, none, none] QT := by
  have p1 : ev (sigOf defs (k + 8)) (.con .non) [some (.dat sc), some (.own st), some (.dat (.int n)), some (.dat (enc n n A)), some (.dat (enc n n B)), some (.dat (enc n n (one n))), some (.dat (.int (w : Nat))), some (.dat (.int (t : Nat))), some (.dat (enc w t F)), some (.dat (enc t w F2)), some (.dat (.int c)), some (.own ((List.range (7 + 1)).map fun k => enc n n (pw n A k))), y, some (.dat (.int (e : Nat))), some (.dat (.lst ((List.range 8).map fun k => .int (p n A k)))), some (.dat (nums n A)), y1, some (.dat (enc n n fun _ _ => 0)), none, y2, y3, y4, none, none, none, none] = .ok (.non, [some (.dat sc), some (.own st), some (.dat (.int n)), some (.dat (enc n n A)), some (.dat (enc n n B)), some (.dat (enc n n (one n))), some (.dat (.int (w : Nat))), some (.dat (.int (t : Nat))), some (.dat (enc w t F)), some (.dat (enc t w F2)), some (.dat (.int c)), some (.own ((List.range (7 + 1)).map fun k => enc n n (pw n A k))), y, some (.dat (.int (e : Nat))), some (.dat (.lst ((List.range 8).map fun k => .int (p n A k)))), some (.dat (nums n A)), y1, some (.dat (enc n n fun _ _ => 0)), none, y2, y3, y4, none, none, none, none]) := ev_con
  have p2 : ev (sigOf defs (k + 8)) (.prim (.bi .list) [.slot 3]) [some (.dat sc), some (.own st), some (.dat (.int n)), some (.dat (enc n n A)), some (.dat (enc n n B)), some (.dat (enc n n (one n))), some (.dat (.int (w : Nat))), some (.dat (.int (t : Nat))), some (.dat (enc w t F)), some (.dat (enc t w F2)), some (.dat (.int c)), some (.own ((List.range (7 + 1)).map fun k => enc n n (pw n A k))), y, some (.dat (.int (e : Nat))), some (.dat (.lst ((List.range 8).map fun k => .int (p n A k)))), some (.dat (nums n A)), y1, some (.dat (enc n n fun _ _ => 0)), none, y2, y3, y4, none, none, none, none] = .ok (.lst ((List.range n).map (row n A)), [some (.dat sc), some (.own st), some (.dat (.int n)), some (.dat (enc n n A)), some (.dat (enc n n B)), some (.dat (enc n n (one n))), some (.dat (.int (w : Nat))), some (.dat (.int (t : Nat))), some (.dat (enc w t F)), some (.dat (enc t w F2)), some (.dat (.int c)), some (.own ((List.range (7 + 1)).map fun k => enc n n (pw n A k))), y, some (.dat (.int (e : Nat))), some (.dat (.lst ((List.range 8).map fun k => .int (p n A k)))), some (.dat (nums n A)), y1, some (.dat (enc n n fun _ _ => 0)), none, y2, y3, y4, none, none, none, none]) := by
    rw [ev_prim, opnds_consS, opnd_slot]
    simp only [getS_0, getS_s, Out.bind_okS, opnds_nilS, rdAll, rdO, Px.Slot.frz, Out.of_someS, primF]
    rfl
  have q1 : ev (sigOf defs (k + 8)) (.dsp true [.con (.int 0)]) [some (.dat sc), some (.own st), some (.dat (.int n)), some (.dat (enc n n A)), some (.dat (enc n n B)), some (.dat (enc n n (one n))), some (.dat (.int (w : Nat))), some (.dat (.int (t : Nat))), some (.dat (enc w t F)), some (.dat (enc t w F2)), some (.dat (.int c)), some (.own ((List.range (7 + 1)).map fun k => enc n n (pw n A k))), y, some (.dat (.int (e : Nat))), some (.dat (.lst ((List.range 8).map fun k => .int (p n A k)))), some (.dat (nums n A)), y1, some (.dat (enc n n fun _ _ => 0)), none, y2, y3, y4, none, none, none, none] = .ok (.tup [.int 0], [some (.dat sc), some (.own st), some (.dat (.int n)), some (.dat (enc n n A)), some (.dat (enc n n B)), some (.dat (enc n n (one n))), some (.dat (.int (w : Nat))), some (.dat (.int (t : Nat))), some (.dat (enc w t F)), some (.dat (enc t w F2)), some (.dat (.int c)), some (.own ((List.range (7 + 1)).map fun k => enc n n (pw n A k))), y, some (.dat (.int (e : Nat))), some (.dat (.lst ((List.range 8).map fun k => .int (p n A k)))), some (.dat (nums n A)), y1, some (.dat (enc n n fun _ _ => 0)), none, y2, y3, y4, none, none, none, none]) := dsp1 ev_con
  have q2 : ev (sigOf defs (k + 8)) (.prim (.bin .Mult) [.ex (.dsp true [.con (.int 0)]), .slot 2]) [some (.dat sc), some (.own st), some (.dat (.int n)), some (.dat (enc n n A)), some (.dat (enc n n B)), some (.dat (enc n n (one n))), some (.dat (.int (w : Nat))), some (.dat (.int (t : Nat))), some (.dat (enc w t F)), some (.dat (enc t w F2)), some (.dat (.int c)), some (.own ((List.range (7 + 1)).map fun k => enc n n (pw n A k))), y, some (.dat (.int (e : Nat))), some (.dat (.lst ((List.range 8).map fun k => .int (p n A k)))), some (.dat (nums n A)), y1, some (.dat (enc n n fun _ _ => 0)), none, y2, y3, y4, none, none, none, none] = .ok (row n (fun _ _ => 0) 0, [some (.dat sc), some (.own st), some (.dat (.int n)), some (.dat (enc n n A)), some (.dat (enc n n B)), some (.dat (enc n n (one n))), some (.dat (.int (w : Nat))), some (.dat (.int (t : Nat))), some (.dat (enc w t F)), some (.dat (enc t w F2)), some (.dat (.int c)), some (.own ((List.range (7 + 1)).map fun k => enc n n (pw n A k))), y, some (.dat (.int (e : Nat))), some (.dat (.lst ((List.range 8).map fun k => .int (p n A k)))), some (.dat (nums n A)), y1, some (.dat (enc n n fun _ _ => 0)), none, y2, y3, y4, none, none, none, none]) := by
    have e2 := mul0 (i := 0) hn
    rw [ev_prim, opnds_consS, opnd_ex, q1, Out.bind_okS, Out.bind_okS, opnds_consS, opnd_slot]
    simp only [getS_0, getS_s, Out.bind_okS, opnds_nilS, rdAll, rdO, Px.Slot.frz, Out.of_someS, primF, e2]
  have q3 := dsp1 (b := true) q2
  have p3 : ev (sigOf defs (k + 8)) (.prim (.bin .Add) [.slot 3, .ex (.dsp true [.prim (.bin .Mult) [.ex (.dsp true [.con (.int 0)]), .slot 2]])]) [some (.dat sc), some (.own st), some (.dat (.int n)), some (.dat (enc n n A)), some (.dat (enc n n B)), some (.dat (enc n n (one n))), some (.dat (.int (w : Nat))), some (.dat (.int (t : Nat))), some (.dat (enc w t F)), some (.dat (enc t w F2)), some (.dat (.int c)), some (.own ((List.range (7 + 1)).map fun k => enc n n (pw n A k))), y, some (.dat (.int (e : Nat))), some (.dat (.lst ((List.range 8).map fun k => .int (p n A k)))), some (.dat (nums n A)), y1, some (.dat (enc n n fun _ _ => 0)), none, y2, y3, y4, none, none, none, none] = .ok (.tup ((List.range n).map (row n A) ++ [row n (fun _ _ => 0) 0]), [some (.dat sc), some (.own st), some (.dat (.int n)), some (.dat (enc n n A)), some (.dat (enc n n B)), some (.dat (enc n n (one n))), some (.dat (.int (w : Nat))), some (.dat (.int (t : Nat))), some (.dat (enc w t F)), some (.dat (enc t w F2)), some (.dat (.int c)), some (.own ((List.range (7 + 1)).map fun k => enc n n (pw n A k))), y, some (.dat (.int (e : Nat))), some (.dat (.lst ((List.range 8).map fun k => .int (p n A k)))), some (.dat (nums n A)), y1, some (.dat (enc n n fun _ _ => 0)), none, y2, y3, y4, none, none, none, none]) := by
    have e2 : binF .Add (enc n n A) (.tup [row n (fun _ _ => 0) 0]) = some (.tup ((List.range n).map (row n A) ++ [row n (fun _ _ => 0) 0])) := by
      unfold enc
      refine if_pos ⟨rfl, ?_⟩
      rw [List.length_map, List.length_range]
      exact Nat.le_of_lt (lt_lim (n := n + 1) (by omega))
    rw [ev_prim, opnds_consS, opnd_slot]
    simp only [getS_0, getS_s, Out.bind_okS, opnds_consS, opnd_ex, q3, if_true, opnds_nilS, rdAll, rdO, Px.Slot.frz, Out.of_someS, primF, e2]
  have p4 : ev (sigOf defs (k + 8)) (.dsp true [.dsp true [.con (.int 1), .con (.int 2)]]) [some (.dat sc), some (.own st), some (.dat (.int n)), some (.dat (enc n n A)), some (.dat (enc n n B)), some (.dat (enc n n (one n))), some (.dat (.int (w : Nat))), some (.dat (.int (t : Nat))), some (.dat (enc w t F)), some (.dat (enc t w F2)), some (.dat (.int c)), some (.own ((List.range (7 + 1)).map fun k => enc n n (pw n A k))), y, some (.dat (.int (e : Nat))), some (.dat (.lst ((List.range 8).map fun k => .int (p n A k)))), some (.dat (nums n A)), y1, some (.dat (enc n n fun _ _ => 0)), none, y2, y3, y4, none, none, none, none] = .ok (.tup [.tup [.int 1, .int 2]], [some (.dat sc), some (.own st), some (.dat (.int n)), some (.dat (enc n n A)), some (.dat (enc n n B)), some (.dat (enc n n (one n))), some (.dat (.int (w : Nat))), some (.dat (.int (t : Nat))), some (.dat (enc w t F)), some (.dat (enc t w F2)), some (.dat (.int c)), some (.own ((List.range (7 + 1)).map fun k => enc n n (pw n A k))), y, some (.dat (.int (e : Nat))), some (.dat (.lst ((List.range 8).map fun k => .int (p n A k)))), some (.dat (nums n A)), y1, some (.dat (enc n n fun _ _ => 0)), none, y2, y3, y4, none, none, none, none]) := by
    refine dsp1 (b := true) ?_
    rw [ev_dsp, evs_cons, ev_con]
    simp only [Out.bind_okS, evs_one, ev_con]
    exact if_pos (Nat.le_of_lt (lt_lim (n := 2) (by decide)))
  have p5 : ev (sigOf defs (k + 8)) (.dsp true [.dsp true [.con (.bl true)]]) [some (.dat sc), some (.own st), some (.dat (.int n)), some (.dat (enc n n A)), some (.dat (enc n n B)), some (.dat (enc n n (one n))), some (.dat (.int (w : Nat))), some (.dat (.int (t : Nat))), some (.dat (enc w t F)), some (.dat (enc t w F2)), some (.dat (.int c)), some (.own ((List.range (7 + 1)).map fun k => enc n n (pw n A k))), y, some (.dat (.int (e : Nat))), some (.dat (.lst ((List.range 8).map fun k => .int (p n A k)))), some (.dat (nums n A)), y1, some (.dat (enc n n fun _ _ => 0)), none, y2, y3, y4, none, none, none, none] = .ok (.tup [.tup [.bl true]], [some (.dat sc), some (.own st), some (.dat (.int n)), some (.dat (enc n n A)), some (.dat (enc n n B)), some (.dat (enc n n (one n))), some (.dat (.int (w : Nat))), some (.dat (.int (t : Nat))), some (.dat (enc w t F)), some (.dat (enc t w F2)), some (.dat (.int c)), some (.own ((List.range (7 + 1)).map fun k => enc n n (pw n A k))), y, some (.dat (.int (e : Nat))), some (.dat (.lst ((List.range 8).map fun k => .int (p n A k)))), some (.dat (nums n A)), y1, some (.dat (enc n n fun _ _ => 0)), none, y2, y3, y4, none, none, none, none]) := dsp1 (b := true) (dsp1 (b := true) ev_con)
  have p6 : ev (sigOf defs (k + 8)) (.dsp true [.dsp false [.con (.int 1)]]) [some (.dat sc), some (.own st), some (.dat (.int n)), some (.dat (enc n n A)), some (.dat (enc n n B)), some (.dat (enc n n (one n))), some (.dat (.int (w : Nat))), some (.dat (.int (t : Nat))), some (.dat (enc w t F)), some (.dat (enc t w F2)), some (.dat (.int c)), some (.own ((List.range (7 + 1)).map fun k => enc n n (pw n A k))), y, some (.dat (.int (e : Nat))), some (.dat (.lst ((List.range 8).map fun k => .int (p n A k)))), some (.dat (nums n A)), y1, some (.dat (enc n n fun _ _ => 0)), none, y2, y3, y4, none, none, none, none] = .ok (.tup [.lst [.int 1]], [some (.dat sc), some (.own st), some (.dat (.int n)), some (.dat (enc n n A)), some (.dat (enc n n B)), some (.dat (enc n n (one n))), some (.dat (.int (w : Nat))), some (.dat (.int (t : Nat))), some (.dat (enc w t F)), some (.dat (enc t w F2)), some (.dat (.int c)), some (.own ((List.range (7 + 1)).map fun k => enc n n (pw n A k))), y, some (.dat (.int (e : Nat))), some (.dat (.lst ((List.range 8).map fun k => .int (p n A k)))), some (.dat (nums n A)), y1, some (.dat (enc n n fun _ _ => 0)), none, y2, y3, y4, none, none, none, none]) := dsp1 (b := true) (dsp1 (b := false) ev_con)
  refine ws_cons (ws_set (d := .lst (odds n A)) (ρ1 := [some (.dat sc), some (.own st), some (.dat (.int n)), some (.dat (enc n n A)), some (.dat (enc n n B)), some (.dat (enc n n (one n))), some (.dat (.int (w : Nat))), some (.dat (.int (t : Nat))), some (.dat (enc w t F)), some (.dat (enc t w F2)), some (.dat (.int c)), some (.own ((List.range (7 + 1)).map fun k => enc n n (pw n A k))), y, some (.dat (.int (e : Nat))), some (.dat (.lst ((List.range 8).map fun k => .int (p n A k)))), some (.dat (nums n A)), y1, some (.dat (enc n n fun _ _ => 0)), none, y2, y3, y4, none, none, none, none]) ?_ ?_)
  · rw [ev_dsp, evs_cons, p1, Out.bind_okS]
    simp only [Out.bind_okS, evs_cons, p2, p3, p4, p5, p6, evs_nil]
    exact if_pos (Nat.le_of_lt (lt_lim (n := 6) (by decide)))
  obtain ⟨d, st1, r1, g1, l1, u1⟩ := ev_pick (k := k + 7) fnd_pick (s := 1) (ρ := [some (.dat sc), some (.own st), some (.dat (.int n)), some (.dat (enc n n A)), some (.dat (enc n n B)), some (.dat (enc n n (one n))), some (.dat (.int (w : Nat))), some (.dat (.int (t : Nat))), some (.dat (enc w t F)), some (.dat (enc t w F2)), some (.dat (.int c)), some (.own ((List.range (7 + 1)).map fun k => enc n n (pw n A k))), y, some (.dat (.int (e : Nat))), some (.dat (.lst ((List.range 8).map fun k => .int (p n A k)))), some (.dat (nums n A)), y1, some (.dat (enc n n fun _ _ => 0)), some (.dat (.lst (odds n A))), y2, y3, y4, none, none, none, none]) rfl hst (m := 6) (by decide) (by decide)
  obtain ⟨d, rfl⟩ : ∃ e : Nat, d = (e : Int) := ⟨d.toNat, by omega⟩
  obtain ⟨o, ho, hc⟩ := odd_no (k := k + 7) (n := n) (d := d) (A := A) (by omega)
  have f1 : ev (sigOf defs (k + 8)) (.call "is_square" [.ex (.var 3)]) [some (.dat sc), some (.own st), some (.dat (.int n)), some (.dat (enc n n A)), some (.dat (enc n n B)), some (.dat (enc n n (one n))), some (.dat (.int (w : Nat))), some (.dat (.int (t : Nat))), some (.dat (enc w t F)), some (.dat (enc t w F2)), some (.dat (.int c)), some (.own ((List.range (7 + 1)).map fun k => enc n n (pw n A k))), y, some (.dat (.int (e : Nat))), some (.dat (.lst ((List.range 8).map fun k => .int (p n A k)))), some (.dat (nums n A)), y1, some (.dat (enc n n fun _ _ => 0)), some (.dat (.lst (odds n A))), y2, y3, y4, none, none, none, none] = .ok (.bl true, [some (.dat sc), some (.own st), some (.dat (.int n)), some (.dat (enc n n A)), some (.dat (enc n n B)), some (.dat (enc n n (one n))), some (.dat (.int (w : Nat))), some (.dat (.int (t : Nat))), some (.dat (enc w t F)), some (.dat (enc t w F2)), some (.dat (.int c)), some (.own ((List.range (7 + 1)).map fun k => enc n n (pw n A k))), y, some (.dat (.int (e : Nat))), some (.dat (.lst ((List.range 8).map fun k => .int (p n A k)))), some (.dat (nums n A)), y1, some (.dat (enc n n fun _ _ => 0)), some (.dat (.lst (odds n A))), y2, y3, y4, none, none, none, none]) := ev_call1 (d := enc n n A) (by simp [opnds_nilS, opnds_consS, opnd_slot, opnd_ex, ev_var, ev_con, ev_prim, ev_dsp, ev_bop, ev_not, ev_ite, ev_isi, ev_callS, evs_nil, evs_cons, evC_nil, evC_cons, evB_one, evB_more, evT_bop, evT_not, evT_val, evo_var, evo_call', evo_dsp, evo_prim, evo_con, evo_bop, evo_not, evo_ite, evo_isi, getS_0, getS_s, rdAll, rdO, Slot.frz, primF, cmpF, truD, biF_lenT, biF_lenL, biF_tupT, biF_tupL, biF_listT, biF_listL, biF_intI, biF_intB, biF_absI, len_enc, len_row, natI, binF, freshP, isOwn, eqF_int, addI, subI, argS, backA, slotsOf, isiF]) (w_sq (k := k + 7) hn)
  have f2 : ev (sigOf defs (k + 8)) (.prim (.cmp .Is) [.ex (.call "is_square" [.ex (.var 3)]), .ex (.con (.bl true))]) [some (.dat sc), some (.own st), some (.dat (.int n)), some (.dat (enc n n A)), some (.dat (enc n n B)), some (.dat (enc n n (one n))), some (.dat (.int (w : Nat))), some (.dat (.int (t : Nat))), some (.dat (enc w t F)), some (.dat (enc t w F2)), some (.dat (.int c)), some (.own ((List.range (7 + 1)).map fun k => enc n n (pw n A k))), y, some (.dat (.int (e : Nat))), some (.dat (.lst ((List.range 8).map fun k => .int (p n A k)))), some (.dat (nums n A)), y1, some (.dat (enc n n fun _ _ => 0)), some (.dat (.lst (odds n A))), y2, y3, y4, none, none, none, none] = .ok (.bl true, [some (.dat sc), some (.own st), some (.dat (.int n)), some (.dat (enc n n A)), some (.dat (enc n n B)), some (.dat (enc n n (one n))), some (.dat (.int (w : Nat))), some (.dat (.int (t : Nat))), some (.dat (enc w t F)), some (.dat (enc t w F2)), some (.dat (.int c)), some (.own ((List.range (7 + 1)).map fun k => enc n n (pw n A k))), y, some (.dat (.int (e : Nat))), some (.dat (.lst ((List.range 8).map fun k => .int (p n A k)))), some (.dat (nums n A)), y1, some (.dat (enc n n fun _ _ => 0)), some (.dat (.lst (odds n A))), y2, y3, y4, none, none, none, none]) := by
    rw [ev_prim, opnds_consS, opnd_ex, f1]
    simp only [Out.bind_okS, opnds_consS, opnd_ex, ev_con, opnds_nilS, rdAll, rdO, Out.of_someS, primF]
    rfl
  have f3 : ev (sigOf defs (k + 8)) (.prim .ix [.slot 18, .ex (.call "_law_pick" [.slot 1, .ex (.con (.int 6))])]) [some (.dat sc), some (.own st), some (.dat (.int n)), some (.dat (enc n n A)), some (.dat (enc n n B)), some (.dat (enc n n (one n))), some (.dat (.int (w : Nat))), some (.dat (.int (t : Nat))), some (.dat (enc w t F)), some (.dat (enc t w F2)), some (.dat (.int c)), some (.own ((List.range (7 + 1)).map fun k => enc n n (pw n A k))), y, some (.dat (.int (e : Nat))), some (.dat (.lst ((List.range 8).map fun k => .int (p n A k)))), some (.dat (nums n A)), y1, some (.dat (enc n n fun _ _ => 0)), some (.dat (.lst (odds n A))), y2, y3, y4, none, none, none, none] = .ok (o, ([some (.dat sc), some (.own st), some (.dat (.int n)), some (.dat (enc n n A)), some (.dat (enc n n B)), some (.dat (enc n n (one n))), some (.dat (.int (w : Nat))), some (.dat (.int (t : Nat))), some (.dat (enc w t F)), some (.dat (enc t w F2)), some (.dat (.int c)), some (.own ((List.range (7 + 1)).map fun k => enc n n (pw n A k))), y, some (.dat (.int (e : Nat))), some (.dat (.lst ((List.range 8).map fun k => .int (p n A k)))), some (.dat (nums n A)), y1, some (.dat (enc n n fun _ _ => 0)), some (.dat (.lst (odds n A))), y2, y3, y4, none, none, none, none]).set 1 (some (.own st1))) := by
    rw [ev_prim, opnds_consS, opnd_slot]
    simp only [getS_0, getS_s, Out.bind_okS, opnds_consS, opnd_ex, r1, opnds_nilS, rdAll, rdO, List.set_cons_succ, List.set_cons_zero, Px.Slot.frz, Out.of_someS, primF, ixF, ho]
  have f4 := ev_call1 f3 hc
  have f5 : ev (sigOf defs (k + 8)) (.prim (.cmp .Is) [.ex (.call "is_square" [.ex (.prim .ix [.slot 18, .ex (.call "_law_pick" [.slot 1, .ex (.con (.int 6))])])]), .ex (.con (.bl false))]) [some (.dat sc), some (.own st), some (.dat (.int n)), some (.dat (enc n n A)), some (.dat (enc n n B)), some (.dat (enc n n (one n))), some (.dat (.int (w : Nat))), some (.dat (.int (t : Nat))), some (.dat (enc w t F)), some (.dat (enc t w F2)), some (.dat (.int c)), some (.own ((List.range (7 + 1)).map fun k => enc n n (pw n A k))), y, some (.dat (.int (e : Nat))), some (.dat (.lst ((List.range 8).map fun k => .int (p n A k)))), some (.dat (nums n A)), y1, some (.dat (enc n n fun _ _ => 0)), some (.dat (.lst (odds n A))), y2, y3, y4, none, none, none, none] = .ok (.bl true, ([some (.dat sc), some (.own st), some (.dat (.int n)), some (.dat (enc n n A)), some (.dat (enc n n B)), some (.dat (enc n n (one n))), some (.dat (.int (w : Nat))), some (.dat (.int (t : Nat))), some (.dat (enc w t F)), some (.dat (enc t w F2)), some (.dat (.int c)), some (.own ((List.range (7 + 1)).map fun k => enc n n (pw n A k))), y, some (.dat (.int (e : Nat))), some (.dat (.lst ((List.range 8).map fun k => .int (p n A k)))), some (.dat (nums n A)), y1, some (.dat (enc n n fun _ _ => 0)), some (.dat (.lst (odds n A))), y2, y3, y4, none, none, none, none]).set 1 (some (.own st1))) := by
    rw [ev_prim, opnds_consS, opnd_ex, f4]
    simp only [Out.bind_okS, opnds_consS, opnd_ex, ev_con, opnds_nilS, rdAll, rdO, Out.of_someS, primF]
    rfl
  refine ws_cons (ws_ret (d := .dat (.bl true)) (ρ1 := ([some (.dat sc), some (.own st), some (.dat (.int n)), some (.dat (enc n n A)), some (.dat (enc n n B)), some (.dat (enc n n (one n))), some (.dat (.int (w : Nat))), some (.dat (.int (t : Nat))), some (.dat (enc w t F)), some (.dat (enc t w F2)), some (.dat (.int c)), some (.own ((List.range (7 + 1)).map fun k => enc n n (pw n A k))), y, some (.dat (.int (e : Nat))), some (.dat (.lst ((List.range 8).map fun k => .int (p n A k)))), some (.dat (nums n A)), y1, some (.dat (enc n n fun _ _ => 0)), some (.dat (.lst (odds n A))), y2, y3, y4, none, none, none, none]).set 1 (some (.own st1))) ?_ rfl)
  show evo (sigOf defs (k + 8)) _ [some (.dat sc), some (.own st), some (.dat (.int n)), some (.dat (enc n n A)), some (.dat (enc n n B)), some (.dat (enc n n (one n))), some (.dat (.int (w : Nat))), some (.dat (.int (t : Nat))), some (.dat (enc w t F)), some (.dat (enc t w F2)), some (.dat (.int c)), some (.own ((List.range (7 + 1)).map fun k => enc n n (pw n A k))), y, some (.dat (.int (e : Nat))), some (.dat (.lst ((List.range 8).map fun k => .int (p n A k)))), some (.dat (nums n A)), y1, some (.dat (enc n n fun _ _ => 0)), some (.dat (.lst (odds n A))), y2, y3, y4, none, none, none, none] = _
  rw [evo_bop, evB_more, f2, Out.bind_okS]
  simp only [if_true, evB_one, f5, Out.bind_okS]
theorem law_main {sc : D} (hsc : ∃ ns : List Int, sc = .lst (ns.map .int) ∧ ns.length ≤ 63) : WSs (sigOf defs (k + 8)) d_law.body [some (.dat sc), none, none, none, none, none, none, none, none, none, none, none, none, none, none, none, none, none, none, none, none, none, none, none, none, none] QT := by
  obtain ⟨ns, hns, hl⟩ := hsc
  refine ws_cons (ws_seto (Py.evo_call (ds := [sc]) (ρ1 := [some (.dat sc), none, none, none, none, none, none, none, none, none, none, none, none, none, none, none, none, none, none, none, none, none, none, none, none, none]) (opnds_ex (by simp [opnds_nilS, opnds_consS, opnd_slot, opnd_ex, ev_var, ev_con, ev_prim, ev_dsp, ev_bop, ev_not, ev_ite, ev_isi, ev_callS, evs_nil, evs_cons, evC_nil, evC_cons, evB_one, evB_more, evT_bop, evT_not, evT_val, evo_var, evo_call', evo_dsp, evo_prim, evo_con, evo_bop, evo_not, evo_ite, evo_isi, getS_0, getS_s, rdAll, rdO, Slot.frz, primF, cmpF, truD, biF_lenT, biF_lenL, biF_tupT, biF_tupL, biF_listT, biF_listL, biF_intI, biF_intB, biF_absI, len_enc, len_row, natI, binF, freshP, isOwn, eqF_int, addI, subI, argS, backA, slotsOf, isiF]) opnds_nil) (w_start (k := k + 7))) ?_)
  have g0 : Good [sc, .int 0, .int 0, .int 7] := ⟨ns, 0, 0, 7, by subst hns; rfl, hl, by decide, by decide⟩
  generalize ([sc, .int 0, .int 0, .int 7] : List D) = st at *
  obtain ⟨d, st1, p1, g1, l1, u1⟩ := ev_pick (k := k + 7) fnd_pick (s := 1) (ρ := [some (.dat sc), some (.own st), none, none, none, none, none, none, none, none, none, none, none, none, none, none, none, none, none, none, none, none, none, none, none, none]) rfl g0 (m := 5) (by decide) (by decide)
  obtain ⟨n, rfl⟩ : ∃ n : Nat, d = (n : Int) := ⟨d.toNat, by omega⟩
  have hn : n ≤ 4 := by omega
  refine ws_cons (ws_set p1 ?_)
  clear p1 g0
  generalize st1 = st at *
  obtain ⟨A, st3, p3, g3, bA, sA⟩ := ev_table (k := k + 6) (s := 1) (a := 2) (b := 2) (ρ := [some (.dat sc), some (.own st), some (.dat (.int n)), none, none, none, none, none, none, none, none, none, none, none, none, none, none, none, none, none, none, none, none, none, none, none]) rfl g1 (n := n) (m := n) hn hn (by simp [opnds_nilS, opnds_consS, opnd_slot, opnd_ex, ev_var, ev_con, ev_prim, ev_dsp, ev_bop, ev_not, ev_ite, ev_isi, ev_callS, evs_nil, evs_cons, evC_nil, evC_cons, evB_one, evB_more, evT_bop, evT_not, evT_val, evo_var, evo_call', evo_dsp, evo_prim, evo_con, evo_bop, evo_not, evo_ite, evo_isi, getS_0, getS_s, rdAll, rdO, Slot.frz, primF, cmpF, truD, biF_lenT, biF_lenL, biF_tupT, biF_tupL, biF_listT, biF_listL, biF_intI, biF_intB, biF_absI, len_enc, len_row, natI, binF, freshP, isOwn, eqF_int, addI, subI, argS, backA, slotsOf, isiF]) (by simp [opnds_nilS, opnds_consS, opnd_slot, opnd_ex, ev_var, ev_con, ev_prim, ev_dsp, ev_bop, ev_not, ev_ite, ev_isi, ev_callS, evs_nil, evs_cons, evC_nil, evC_cons, evB_one, evB_more, evT_bop, evT_not, evT_val, evo_var, evo_call', evo_dsp, evo_prim, evo_con, evo_bop, evo_not, evo_ite, evo_isi, getS_0, getS_s, rdAll, rdO, Slot.frz, primF, cmpF, truD, biF_lenT, biF_lenL, biF_tupT, biF_tupL, biF_listT, biF_listL, biF_intI, biF_intB, biF_absI, len_enc, len_row, natI, binF, freshP, isOwn, eqF_int, addI, subI, argS, backA, slotsOf, isiF])
  refine ws_cons (ws_set p3 ?_)
  clear p3 g1
  generalize st3 = st at *
  obtain ⟨B, st4, p4, g4, bB, sB⟩ := ev_table (k := k + 6) (s := 1) (a := 2) (b := 2) (ρ := [some (.dat sc), some (.own st), some (.dat (.int n)), some (.dat (enc n n A)), none, none, none, none, none, none, none, none, none, none, none, none, none, none, none, none, none, none, none, none, none, none]) rfl g3 (n := n) (m := n) hn hn (by simp [opnds_nilS, opnds_consS, opnd_slot, opnd_ex, ev_var, ev_con, ev_prim, ev_dsp, ev_bop, ev_not, ev_ite, ev_isi, ev_callS, evs_nil, evs_cons, evC_nil, evC_cons, evB_one, evB_more, evT_bop, evT_not, evT_val, evo_var, evo_call', evo_dsp, evo_prim, evo_con, evo_bop, evo_not, evo_ite, evo_isi, getS_0, getS_s, rdAll, rdO, Slot.frz, primF, cmpF, truD, biF_lenT, biF_lenL, biF_tupT, biF_tupL, biF_listT, biF_listL, biF_intI, biF_intB, biF_absI, len_enc, len_row, natI, binF, freshP, isOwn, eqF_int, addI, subI, argS, backA, slotsOf, isiF]) (by simp [opnds_nilS, opnds_consS, opnd_slot, opnd_ex, ev_var, ev_con, ev_prim, ev_dsp, ev_bop, ev_not, ev_ite, ev_isi, ev_callS, evs_nil, evs_cons, evC_nil, evC_cons, evB_one, evB_more, evT_bop, evT_not, evT_val, evo_var, evo_call', evo_dsp, evo_prim, evo_con, evo_bop, evo_not, evo_ite, evo_isi, getS_0, getS_s, rdAll, rdO, Slot.frz, primF, cmpF, truD, biF_lenT, biF_lenL, biF_tupT, biF_tupL, biF_listT, biF_listL, biF_intI, biF_intB, biF_absI, len_enc, len_row, natI, binF, freshP, isOwn, eqF_int, addI, subI, argS, backA, slotsOf, isiF])
  refine ws_cons (ws_set p4 ?_)
  clear p4 g3
  generalize st4 = st at *
  have rest : ∀ st A, Good st → Sup n A → Bd 2 A → WSs (sigOf defs (k + 8)) (d_law.body.drop 5) [some (.dat sc), some (.own st), some (.dat (.int n)), some (.dat (enc n n A)), some (.dat (enc n n B)), none, none, none, none, none, none, none, none, none, none, none, none, none, none, none, none, none, none, none, none, none] QT := fun st A hst hA hA2 =>
    law_5 hst hn hA hA2 bB fun st hst => law_7 hst hn fun st w t F F2 c hst hc => law_13 hn hA hA2 hc fun y hy => law_18 hy hst hn hA hA2 fun st e hst => law_22 hn hA hA2 (law_24 hn hA2 fun y1 y2 y3 y4 => law_25 hy hn hA hA2 (law_27 hst hn))
  obtain ⟨d, st5, p5, g5, l5, u5⟩ := ev_pick (k := k + 7) fnd_pick (s := 1) (ρ := [some (.dat sc), some (.own st), some (.dat (.int n)), some (.dat (enc n n A)), some (.dat (enc n n B)), none, none, none, none, none, none, none, none, none, none, none, none, none, none, none, none, none, none, none, none, none]) rfl g4 (m := 3) (by decide) (by decide)
  have p5' : ev (sigOf defs (k + 8)) (.call "_law_pick" [.slot 1, .ex (.con (.int 3))]) [some (.dat sc), some (.own st), some (.dat (.int n)), some (.dat (enc n n A)), some (.dat (enc n n B)), none, none, none, none, none, none, none, none, none, none, none, none, none, none, none, none, none, none, none, none, none] = .ok (.int d, [some (.dat sc), some (.own st5), some (.dat (.int n)), some (.dat (enc n n A)), some (.dat (enc n n B)), none, none, none, none, none, none, none, none, none, none, none, none, none, none, none, none, none, none, none, none, none]) := p5
  have R5 := rest st5 A g5 sA bA
  refine ws_cons (ws_ite (t := decide (d = 0)) (ρ1 := [some (.dat sc), some (.own st5), some (.dat (.int n)), some (.dat (enc n n A)), some (.dat (enc n n B)), none, none, none, none, none, none, none, none, none, none, none, none, none, none, none, none, none, none, none, none, none]) ?_ (fun _ => ?_) (fun _ => ws_nil R5))
  · show evT (sigOf defs (k + 8)) _ [some (.dat sc), some (.own st), some (.dat (.int n)), some (.dat (enc n n A)), some (.dat (enc n n B)), none, none, none, none, none, none, none, none, none, none, none, none, none, none, none, none, none, none, none, none, none] = _
    rw [evT_val, opnd_ex, ev_prim, opnds_consS, opnd_ex, p5']
    simp only [Out.bind_okS, opnds_consS, opnd_ex, ev_con, opnds_nilS, rdAll, rdO, Out.of_someS, primF, cmpF, eqF_int, Option.map_some, truD]
  · clear p5 p5' R5 g4
    generalize st5 = st at *
    refine ws_cons (ws_set (ev_tab (ρ := [some (.dat sc), some (.own st), some (.dat (.int n)), some (.dat (enc n n A)), some (.dat (enc n n B)), none, none, none, none, none, none, none, none, none, none, none, none, none, none, none, none, none, none, none, none, none]) (n := n) (m := n) (fun i j => A i j * if i < j then 1 else 0) (lt_lim (by omega)) (lt_lim (by omega)) rfl (fun _ => rfl) (by simp [opnds_nilS, opnds_consS, opnd_slot, opnd_ex, ev_var, ev_con, ev_prim, ev_dsp, ev_bop, ev_not, ev_ite, ev_isi, ev_callS, evs_nil, evs_cons, evC_nil, evC_cons, evB_one, evB_more, evT_bop, evT_not, evT_val, evo_var, evo_call', evo_dsp, evo_prim, evo_con, evo_bop, evo_not, evo_ite, evo_isi, getS_0, getS_s, rdAll, rdO, Slot.frz, primF, cmpF, truD, biF_lenT, biF_lenL, biF_tupT, biF_tupL, biF_listT, biF_listL, biF_intI, biF_intB, biF_absI, len_enc, len_row, natI, binF, freshP, isOwn, eqF_int, addI, subI, argS, backA, slotsOf, isiF]) (fun i hi => by simp [opnds_nilS, opnds_consS, opnd_slot, opnd_ex, ev_var, ev_con, ev_prim, ev_dsp, ev_bop, ev_not, ev_ite, ev_isi, ev_callS, evs_nil, evs_cons, evC_nil, evC_cons, evB_one, evB_more, evT_bop, evT_not, evT_val, evo_var, evo_call', evo_dsp, evo_prim, evo_con, evo_bop, evo_not, evo_ite, evo_isi, getS_0, getS_s, rdAll, rdO, Slot.frz, primF, cmpF, truD, biF_lenT, biF_lenL, biF_tupT, biF_tupL, biF_listT, biF_listL, biF_intI, biF_intB, biF_absI, len_enc, len_row, natI, binF, freshP, isOwn, eqF_int, addI, subI, argS, backA, slotsOf, isiF]) (fun i hi j hj => ?_)) (ws_nil (rest st (fun i j => A i j * if i < j then 1 else 0) g5 (fun i j h => ?_) (fun i j => ?_))))
    · have hm : binI .Mult (A i j) (if i < j then 1 else 0) = some (A i j * if i < j then 1 else 0) := mulI (a := 2) (b := 1) (bA i j) (by split <;> decide) (by decide) (by decide) (by decide)
      simp [opnds_nilS, opnds_consS, opnd_slot, opnd_ex, ev_var, ev_con, ev_prim, ev_dsp, ev_bop, ev_not, ev_ite, ev_isi, ev_callS, evs_nil, evs_cons, evC_nil, evC_cons, evB_one, evB_more, evT_bop, evT_not, evT_val, evo_var, evo_call', evo_dsp, evo_prim, evo_con, evo_bop, evo_not, evo_ite, evo_isi, getS_0, getS_s, rdAll, rdO, Slot.frz, primF, cmpF, truD, biF_lenT, biF_lenL, biF_tupT, biF_tupL, biF_listT, biF_listL, biF_intI, biF_intB, biF_absI, len_enc, len_row, natI, binF, freshP, isOwn, eqF_int, addI, subI, argS, backA, slotsOf, isiF, ix_enc hi, ix_row hj, hm]
    · show (A i j * if i < j then 1 else 0) = 0
      rw [sA i j h, Int.zero_mul]
    · have := bA i j
      show (A i j * if i < j then 1 else 0).natAbs < 2 ^ 2
      split <;> omega
theorem law_true : Px.Law defs d_law 30 := fun ns hl => by
  obtain ⟨fl, ρ', h, rfl⟩ := law_main (k := 22) (sc := .lst (ns.map D.int)) ⟨ns, rfl, hl⟩
  refine ⟨ρ', ?_⟩
  unfold runDef
  rw [if_pos ⟨rfl, by decide⟩]
  show Out.bind (exs (sigOf defs (22 + 8)) d_law.body [some (.dat (.lst (ns.map D.int))), none, none, none, none, none, none, none, none, none, none, none, none, none, none, none, none, none, none, none, none, none, none, none, none, none]) _ = _
  rw [h, Out.bind_okS]
  rfl
end

end LW

namespace LW
open PySem PySem.Spec PyProof.Rows L2 Px
/-! ### the text -/
def topS (i : Nat) : Stmt := PySem.Challenge.pw_shiftwright_k03_tables_of_numbers.main.body.getD i (.Pass ⟨0, 0, 0, 0⟩)
abbrev s_d_is_square : Stmt := topS 1
abbrev s_d_unit_table : Stmt := topS 2
abbrev s_d_times_table : Stmt := topS 3
abbrev s_d_plus_table : Stmt := topS 4
abbrev s_d_scaled_table : Stmt := topS 5
abbrev s_d_power_table : Stmt := topS 6
abbrev s_d_trace_of : Stmt := topS 7
abbrev s_d_flipped_table : Stmt := topS 8
abbrev s_d_characteristic : Stmt := topS 9
abbrev s_d_determinant_of : Stmt := topS 10
abbrev s_d_traces : Stmt := topS 11
abbrev s_d_traces_by_numbers : Stmt := topS 12
abbrev s_d_is_nilpotent : Stmt := topS 13
abbrev s_d_law_start : Stmt := topS 15
abbrev s_d_law_pick : Stmt := topS 16
abbrev s_d_law_same : Stmt := topS 17
abbrev s_d_law_table : Stmt := topS 18
abbrev s_d_law_product : Stmt := topS 19
abbrev s_d_law_determinant : Stmt := topS 20
abbrev s_d_law : Stmt := topS 21
theorem sc_d_is_square : FnScope d_is_square.N (d_is_square.N.take d_is_square.np) (defScope s_d_is_square) := ⟨rfl, rfl, rfl, by decide +kernel, rfl, by decide +kernel, by decide +kernel⟩
theorem ck_d_is_square : ckSs 60 d_is_square.N (defScope s_d_is_square) d_is_square.body (defBody s_d_is_square) = true := by decide +kernel
theorem bd_d_is_square : ∀ (kV doc pm : Value) (an : Option Addr) (cdv ct : Value) (us : List Value), us.length = (d_is_square.N.take d_is_square.np).length → bindArgs (PySem.W.fnOf d_is_square.nm d_is_square.nm (defArgs s_d_is_square) (defBody s_d_is_square) (defScope s_d_is_square) .none kV doc pm an cdv ct) ⟨us, []⟩ = pure ((d_is_square.N.take d_is_square.np).zip us) := fun _ _ _ _ _ _ us hl => match us, hl with | [_], _ => rfl
theorem sc_d_unit_table : FnScope d_unit_table.N (d_unit_table.N.take d_unit_table.np) (defScope s_d_unit_table) := ⟨rfl, rfl, rfl, by decide +kernel, rfl, by decide +kernel, by decide +kernel⟩
theorem ck_d_unit_table : ckSs 60 d_unit_table.N (defScope s_d_unit_table) d_unit_table.body (defBody s_d_unit_table) = true := by decide +kernel
theorem bd_d_unit_table : ∀ (kV doc pm : Value) (an : Option Addr) (cdv ct : Value) (us : List Value), us.length = (d_unit_table.N.take d_unit_table.np).length → bindArgs (PySem.W.fnOf d_unit_table.nm d_unit_table.nm (defArgs s_d_unit_table) (defBody s_d_unit_table) (defScope s_d_unit_table) .none kV doc pm an cdv ct) ⟨us, []⟩ = pure ((d_unit_table.N.take d_unit_table.np).zip us) := fun _ _ _ _ _ _ us hl => match us, hl with | [_], _ => rfl
theorem sc_d_times_table : FnScope d_times_table.N (d_times_table.N.take d_times_table.np) (defScope s_d_times_table) := ⟨rfl, rfl, rfl, by decide +kernel, rfl, by decide +kernel, by decide +kernel⟩
theorem ck_d_times_table : ckSs 60 d_times_table.N (defScope s_d_times_table) d_times_table.body (defBody s_d_times_table) = true := by decide +kernel
theorem bd_d_times_table : ∀ (kV doc pm : Value) (an : Option Addr) (cdv ct : Value) (us : List Value), us.length = (d_times_table.N.take d_times_table.np).length → bindArgs (PySem.W.fnOf d_times_table.nm d_times_table.nm (defArgs s_d_times_table) (defBody s_d_times_table) (defScope s_d_times_table) .none kV doc pm an cdv ct) ⟨us, []⟩ = pure ((d_times_table.N.take d_times_table.np).zip us) := fun _ _ _ _ _ _ us hl => match us, hl with | [_, _], _ => rfl
theorem sc_d_plus_table : FnScope d_plus_table.N (d_plus_table.N.take d_plus_table.np) (defScope s_d_plus_table) := ⟨rfl, rfl, rfl, by decide +kernel, rfl, by decide +kernel, by decide +kernel⟩
theorem ck_d_plus_table : ckSs 60 d_plus_table.N (defScope s_d_plus_table) d_plus_table.body (defBody s_d_plus_table) = true := by decide +kernel
theorem bd_d_plus_table : ∀ (kV doc pm : Value) (an : Option Addr) (cdv ct : Value) (us : List Value), us.length = (d_plus_table.N.take d_plus_table.np).length → bindArgs (PySem.W.fnOf d_plus_table.nm d_plus_table.nm (defArgs s_d_plus_table) (defBody s_d_plus_table) (defScope s_d_plus_table) .none kV doc pm an cdv ct) ⟨us, []⟩ = pure ((d_plus_table.N.take d_plus_table.np).zip us) := fun _ _ _ _ _ _ us hl => match us, hl with | [_, _], _ => rfl
theorem sc_d_scaled_table : FnScope d_scaled_table.N (d_scaled_table.N.take d_scaled_table.np) (defScope s_d_scaled_table) := ⟨rfl, rfl, rfl, by decide +kernel, rfl, by decide +kernel, by decide +kernel⟩
theorem ck_d_scaled_table : ckSs 60 d_scaled_table.N (defScope s_d_scaled_table) d_scaled_table.body (defBody s_d_scaled_table) = true := by decide +kernel
theorem bd_d_scaled_table : ∀ (kV doc pm : Value) (an : Option Addr) (cdv ct : Value) (us : List Value), us.length = (d_scaled_table.N.take d_scaled_table.np).length → bindArgs (PySem.W.fnOf d_scaled_table.nm d_scaled_table.nm (defArgs s_d_scaled_table) (defBody s_d_scaled_table) (defScope s_d_scaled_table) .none kV doc pm an cdv ct) ⟨us, []⟩ = pure ((d_scaled_table.N.take d_scaled_table.np).zip us) := fun _ _ _ _ _ _ us hl => match us, hl with | [_, _], _ => rfl
theorem sc_d_power_table : FnScope d_power_table.N (d_power_table.N.take d_power_table.np) (defScope s_d_power_table) := ⟨rfl, rfl, rfl, by decide +kernel, rfl, by decide +kernel, by decide +kernel⟩
theorem ck_d_power_table : ckSs 60 d_power_table.N (defScope s_d_power_table) d_power_table.body (defBody s_d_power_table) = true := by decide +kernel
theorem bd_d_power_table : ∀ (kV doc pm : Value) (an : Option Addr) (cdv ct : Value) (us : List Value), us.length = (d_power_table.N.take d_power_table.np).length → bindArgs (PySem.W.fnOf d_power_table.nm d_power_table.nm (defArgs s_d_power_table) (defBody s_d_power_table) (defScope s_d_power_table) .none kV doc pm an cdv ct) ⟨us, []⟩ = pure ((d_power_table.N.take d_power_table.np).zip us) := fun _ _ _ _ _ _ us hl => match us, hl with | [_, _], _ => rfl
theorem sc_d_trace_of : FnScope d_trace_of.N (d_trace_of.N.take d_trace_of.np) (defScope s_d_trace_of) := ⟨rfl, rfl, rfl, by decide +kernel, rfl, by decide +kernel, by decide +kernel⟩
theorem ck_d_trace_of : ckSs 60 d_trace_of.N (defScope s_d_trace_of) d_trace_of.body (defBody s_d_trace_of) = true := by decide +kernel
theorem bd_d_trace_of : ∀ (kV doc pm : Value) (an : Option Addr) (cdv ct : Value) (us : List Value), us.length = (d_trace_of.N.take d_trace_of.np).length → bindArgs (PySem.W.fnOf d_trace_of.nm d_trace_of.nm (defArgs s_d_trace_of) (defBody s_d_trace_of) (defScope s_d_trace_of) .none kV doc pm an cdv ct) ⟨us, []⟩ = pure ((d_trace_of.N.take d_trace_of.np).zip us) := fun _ _ _ _ _ _ us hl => match us, hl with | [_], _ => rfl
theorem sc_d_flipped_table : FnScope d_flipped_table.N (d_flipped_table.N.take d_flipped_table.np) (defScope s_d_flipped_table) := ⟨rfl, rfl, rfl, by decide +kernel, rfl, by decide +kernel, by decide +kernel⟩
theorem ck_d_flipped_table : ckSs 60 d_flipped_table.N (defScope s_d_flipped_table) d_flipped_table.body (defBody s_d_flipped_table) = true := by decide +kernel
theorem bd_d_flipped_table : ∀ (kV doc pm : Value) (an : Option Addr) (cdv ct : Value) (us : List Value), us.length = (d_flipped_table.N.take d_flipped_table.np).length → bindArgs (PySem.W.fnOf d_flipped_table.nm d_flipped_table.nm (defArgs s_d_flipped_table) (defBody s_d_flipped_table) (defScope s_d_flipped_table) .none kV doc pm an cdv ct) ⟨us, []⟩ = pure ((d_flipped_table.N.take d_flipped_table.np).zip us) := fun _ _ _ _ _ _ us hl => match us, hl with | [_], _ => rfl
theorem sc_d_characteristic : FnScope d_characteristic.N (d_characteristic.N.take d_characteristic.np) (defScope s_d_characteristic) := ⟨rfl, rfl, rfl, by decide +kernel, rfl, by decide +kernel, by decide +kernel⟩
theorem ck_d_characteristic : ckSs 60 d_characteristic.N (defScope s_d_characteristic) d_characteristic.body (defBody s_d_characteristic) = true := by decide +kernel
theorem bd_d_characteristic : ∀ (kV doc pm : Value) (an : Option Addr) (cdv ct : Value) (us : List Value), us.length = (d_characteristic.N.take d_characteristic.np).length → bindArgs (PySem.W.fnOf d_characteristic.nm d_characteristic.nm (defArgs s_d_characteristic) (defBody s_d_characteristic) (defScope s_d_characteristic) .none kV doc pm an cdv ct) ⟨us, []⟩ = pure ((d_characteristic.N.take d_characteristic.np).zip us) := fun _ _ _ _ _ _ us hl => match us, hl with | [_], _ => rfl
theorem sc_d_determinant_of : FnScope d_determinant_of.N (d_determinant_of.N.take d_determinant_of.np) (defScope s_d_determinant_of) := ⟨rfl, rfl, rfl, by decide +kernel, rfl, by decide +kernel, by decide +kernel⟩
theorem ck_d_determinant_of : ckSs 60 d_determinant_of.N (defScope s_d_determinant_of) d_determinant_of.body (defBody s_d_determinant_of) = true := by decide +kernel
theorem bd_d_determinant_of : ∀ (kV doc pm : Value) (an : Option Addr) (cdv ct : Value) (us : List Value), us.length = (d_determinant_of.N.take d_determinant_of.np).length → bindArgs (PySem.W.fnOf d_determinant_of.nm d_determinant_of.nm (defArgs s_d_determinant_of) (defBody s_d_determinant_of) (defScope s_d_determinant_of) .none kV doc pm an cdv ct) ⟨us, []⟩ = pure ((d_determinant_of.N.take d_determinant_of.np).zip us) := fun _ _ _ _ _ _ us hl => match us, hl with | [_], _ => rfl
theorem sc_d_traces : FnScope d_traces.N (d_traces.N.take d_traces.np) (defScope s_d_traces) := ⟨rfl, rfl, rfl, by decide +kernel, rfl, by decide +kernel, by decide +kernel⟩
theorem ck_d_traces : ckSs 60 d_traces.N (defScope s_d_traces) d_traces.body (defBody s_d_traces) = true := by decide +kernel
theorem bd_d_traces : ∀ (kV doc pm : Value) (an : Option Addr) (cdv ct : Value) (us : List Value), us.length = (d_traces.N.take d_traces.np).length → bindArgs (PySem.W.fnOf d_traces.nm d_traces.nm (defArgs s_d_traces) (defBody s_d_traces) (defScope s_d_traces) .none kV doc pm an cdv ct) ⟨us, []⟩ = pure ((d_traces.N.take d_traces.np).zip us) := fun _ _ _ _ _ _ us hl => match us, hl with | [_, _], _ => rfl
theorem sc_d_traces_by_numbers : FnScope d_traces_by_numbers.N (d_traces_by_numbers.N.take d_traces_by_numbers.np) (defScope s_d_traces_by_numbers) := ⟨rfl, rfl, rfl, by decide +kernel, rfl, by decide +kernel, by decide +kernel⟩
theorem ck_d_traces_by_numbers : ckSs 60 d_traces_by_numbers.N (defScope s_d_traces_by_numbers) d_traces_by_numbers.body (defBody s_d_traces_by_numbers) = true := by decide +kernel
theorem bd_d_traces_by_numbers : ∀ (kV doc pm : Value) (an : Option Addr) (cdv ct : Value) (us : List Value), us.length = (d_traces_by_numbers.N.take d_traces_by_numbers.np).length → bindArgs (PySem.W.fnOf d_traces_by_numbers.nm d_traces_by_numbers.nm (defArgs s_d_traces_by_numbers) (defBody s_d_traces_by_numbers) (defScope s_d_traces_by_numbers) .none kV doc pm an cdv ct) ⟨us, []⟩ = pure ((d_traces_by_numbers.N.take d_traces_by_numbers.np).zip us) := fun _ _ _ _ _ _ us hl => match us, hl with | [_, _], _ => rfl
theorem sc_d_is_nilpotent : FnScope d_is_nilpotent.N (d_is_nilpotent.N.take d_is_nilpotent.np) (defScope s_d_is_nilpotent) := ⟨rfl, rfl, rfl, by decide +kernel, rfl, by decide +kernel, by decide +kernel⟩
theorem ck_d_is_nilpotent : ckSs 60 d_is_nilpotent.N (defScope s_d_is_nilpotent) d_is_nilpotent.body (defBody s_d_is_nilpotent) = true := by decide +kernel
theorem bd_d_is_nilpotent : ∀ (kV doc pm : Value) (an : Option Addr) (cdv ct : Value) (us : List Value), us.length = (d_is_nilpotent.N.take d_is_nilpotent.np).length → bindArgs (PySem.W.fnOf d_is_nilpotent.nm d_is_nilpotent.nm (defArgs s_d_is_nilpotent) (defBody s_d_is_nilpotent) (defScope s_d_is_nilpotent) .none kV doc pm an cdv ct) ⟨us, []⟩ = pure ((d_is_nilpotent.N.take d_is_nilpotent.np).zip us) := fun _ _ _ _ _ _ us hl => match us, hl with | [_], _ => rfl
theorem sc_d_law_start : FnScope d_law_start.N (d_law_start.N.take d_law_start.np) (defScope s_d_law_start) := ⟨rfl, rfl, rfl, by decide +kernel, rfl, by decide +kernel, by decide +kernel⟩
theorem ck_d_law_start : ckSs 60 d_law_start.N (defScope s_d_law_start) d_law_start.body (defBody s_d_law_start) = true := by decide +kernel
theorem bd_d_law_start : ∀ (kV doc pm : Value) (an : Option Addr) (cdv ct : Value) (us : List Value), us.length = (d_law_start.N.take d_law_start.np).length → bindArgs (PySem.W.fnOf d_law_start.nm d_law_start.nm (defArgs s_d_law_start) (defBody s_d_law_start) (defScope s_d_law_start) .none kV doc pm an cdv ct) ⟨us, []⟩ = pure ((d_law_start.N.take d_law_start.np).zip us) := fun _ _ _ _ _ _ us hl => match us, hl with | [_], _ => rfl
theorem sc_d_law_pick : FnScope d_law_pick.N (d_law_pick.N.take d_law_pick.np) (defScope s_d_law_pick) := ⟨rfl, rfl, rfl, by decide +kernel, rfl, by decide +kernel, by decide +kernel⟩
theorem ck_d_law_pick : ckSs 60 d_law_pick.N (defScope s_d_law_pick) d_law_pick.body (defBody s_d_law_pick) = true := by decide +kernel
theorem bd_d_law_pick : ∀ (kV doc pm : Value) (an : Option Addr) (cdv ct : Value) (us : List Value), us.length = (d_law_pick.N.take d_law_pick.np).length → bindArgs (PySem.W.fnOf d_law_pick.nm d_law_pick.nm (defArgs s_d_law_pick) (defBody s_d_law_pick) (defScope s_d_law_pick) .none kV doc pm an cdv ct) ⟨us, []⟩ = pure ((d_law_pick.N.take d_law_pick.np).zip us) := fun _ _ _ _ _ _ us hl => match us, hl with | [_, _], _ => rfl
theorem sc_d_law_same : FnScope d_law_same.N (d_law_same.N.take d_law_same.np) (defScope s_d_law_same) := ⟨rfl, rfl, rfl, by decide +kernel, rfl, by decide +kernel, by decide +kernel⟩
theorem ck_d_law_same : ckSs 60 d_law_same.N (defScope s_d_law_same) d_law_same.body (defBody s_d_law_same) = true := by decide +kernel
theorem bd_d_law_same : ∀ (kV doc pm : Value) (an : Option Addr) (cdv ct : Value) (us : List Value), us.length = (d_law_same.N.take d_law_same.np).length → bindArgs (PySem.W.fnOf d_law_same.nm d_law_same.nm (defArgs s_d_law_same) (defBody s_d_law_same) (defScope s_d_law_same) .none kV doc pm an cdv ct) ⟨us, []⟩ = pure ((d_law_same.N.take d_law_same.np).zip us) := fun _ _ _ _ _ _ us hl => match us, hl with | [_, _], _ => rfl
theorem sc_d_law_table : FnScope d_law_table.N (d_law_table.N.take d_law_table.np) (defScope s_d_law_table) := ⟨rfl, rfl, rfl, by decide +kernel, rfl, by decide +kernel, by decide +kernel⟩
theorem ck_d_law_table : ckSs 60 d_law_table.N (defScope s_d_law_table) d_law_table.body (defBody s_d_law_table) = true := by decide +kernel
theorem bd_d_law_table : ∀ (kV doc pm : Value) (an : Option Addr) (cdv ct : Value) (us : List Value), us.length = (d_law_table.N.take d_law_table.np).length → bindArgs (PySem.W.fnOf d_law_table.nm d_law_table.nm (defArgs s_d_law_table) (defBody s_d_law_table) (defScope s_d_law_table) .none kV doc pm an cdv ct) ⟨us, []⟩ = pure ((d_law_table.N.take d_law_table.np).zip us) := fun _ _ _ _ _ _ us hl => match us, hl with | [_, _, _], _ => rfl
theorem sc_d_law_product : FnScope d_law_product.N (d_law_product.N.take d_law_product.np) (defScope s_d_law_product) := ⟨rfl, rfl, rfl, by decide +kernel, rfl, by decide +kernel, by decide +kernel⟩
theorem ck_d_law_product : ckSs 60 d_law_product.N (defScope s_d_law_product) d_law_product.body (defBody s_d_law_product) = true := by decide +kernel
theorem bd_d_law_product : ∀ (kV doc pm : Value) (an : Option Addr) (cdv ct : Value) (us : List Value), us.length = (d_law_product.N.take d_law_product.np).length → bindArgs (PySem.W.fnOf d_law_product.nm d_law_product.nm (defArgs s_d_law_product) (defBody s_d_law_product) (defScope s_d_law_product) .none kV doc pm an cdv ct) ⟨us, []⟩ = pure ((d_law_product.N.take d_law_product.np).zip us) := fun _ _ _ _ _ _ us hl => match us, hl with | [_, _, _], _ => rfl
theorem sc_d_law_determinant : FnScope d_law_determinant.N (d_law_determinant.N.take d_law_determinant.np) (defScope s_d_law_determinant) := ⟨rfl, rfl, rfl, by decide +kernel, rfl, by decide +kernel, by decide +kernel⟩
theorem ck_d_law_determinant : ckSs 60 d_law_determinant.N (defScope s_d_law_determinant) d_law_determinant.body (defBody s_d_law_determinant) = true := by decide +kernel
theorem bd_d_law_determinant : ∀ (kV doc pm : Value) (an : Option Addr) (cdv ct : Value) (us : List Value), us.length = (d_law_determinant.N.take d_law_determinant.np).length → bindArgs (PySem.W.fnOf d_law_determinant.nm d_law_determinant.nm (defArgs s_d_law_determinant) (defBody s_d_law_determinant) (defScope s_d_law_determinant) .none kV doc pm an cdv ct) ⟨us, []⟩ = pure ((d_law_determinant.N.take d_law_determinant.np).zip us) := fun _ _ _ _ _ _ us hl => match us, hl with | [_], _ => rfl
theorem sc_d_law : FnScope d_law.N (d_law.N.take d_law.np) (defScope s_d_law) := ⟨rfl, rfl, rfl, by decide +kernel, rfl, by decide +kernel, by decide +kernel⟩
theorem ck_d_law : ckSs 60 d_law.N (defScope s_d_law) d_law.body (defBody s_d_law) = true := by decide +kernel
theorem bd_d_law : ∀ (kV doc pm : Value) (an : Option Addr) (cdv ct : Value) (us : List Value), us.length = (d_law.N.take d_law.np).length → bindArgs (PySem.W.fnOf d_law.nm d_law.nm (defArgs s_d_law) (defBody s_d_law) (defScope s_d_law) .none kV doc pm an cdv ct) ⟨us, []⟩ = pure ((d_law.N.take d_law.np).zip us) := fun _ _ _ _ _ _ us hl => match us, hl with | [_], _ => rfl
theorem all_mk {P : Program} {w : World} {K : PySem.W.Frag} {h : Heap} {mg : Str → Option Value} {fa : Addr} (X : K.In h) (G : h.Ns mainGlobals mg) (hfa : mg "law" = some (.ref fa)) (hL : Px.Law defs d_law 30)
    {f0 : Addr} {od0 an0 : Option Addr} {sl0 : Array (Option Value)} {oc0 kV0 dc0 pm0 cd0 ct0 : Value}
    (a0 : PySem.W.nsIn K mainGlobals "is_square" = some (some (.ref f0))) (l0 : K.lookup f0 = some ⟨oc0, od0, .func (PySem.W.fnOf "is_square" "is_square" (defArgs s_d_is_square) (defBody s_d_is_square) (defScope s_d_is_square) .none kV0 dc0 pm0 an0 cd0 ct0), sl0⟩) (c0 : PySem.W.codeIn K cd0 "is_square" = true) (k0 : PySem.W.keepIn K (.ref f0) = true)
    {f1 : Addr} {od1 an1 : Option Addr} {sl1 : Array (Option Value)} {oc1 kV1 dc1 pm1 cd1 ct1 : Value}
    (a1 : PySem.W.nsIn K mainGlobals "unit_table" = some (some (.ref f1))) (l1 : K.lookup f1 = some ⟨oc1, od1, .func (PySem.W.fnOf "unit_table" "unit_table" (defArgs s_d_unit_table) (defBody s_d_unit_table) (defScope s_d_unit_table) .none kV1 dc1 pm1 an1 cd1 ct1), sl1⟩) (c1 : PySem.W.codeIn K cd1 "unit_table" = true) (k1 : PySem.W.keepIn K (.ref f1) = true)
    {f2 : Addr} {od2 an2 : Option Addr} {sl2 : Array (Option Value)} {oc2 kV2 dc2 pm2 cd2 ct2 : Value}
    (a2 : PySem.W.nsIn K mainGlobals "times_table" = some (some (.ref f2))) (l2 : K.lookup f2 = some ⟨oc2, od2, .func (PySem.W.fnOf "times_table" "times_table" (defArgs s_d_times_table) (defBody s_d_times_table) (defScope s_d_times_table) .none kV2 dc2 pm2 an2 cd2 ct2), sl2⟩) (c2 : PySem.W.codeIn K cd2 "times_table" = true) (k2 : PySem.W.keepIn K (.ref f2) = true)
    {f3 : Addr} {od3 an3 : Option Addr} {sl3 : Array (Option Value)} {oc3 kV3 dc3 pm3 cd3 ct3 : Value}
    (a3 : PySem.W.nsIn K mainGlobals "plus_table" = some (some (.ref f3))) (l3 : K.lookup f3 = some ⟨oc3, od3, .func (PySem.W.fnOf "plus_table" "plus_table" (defArgs s_d_plus_table) (defBody s_d_plus_table) (defScope s_d_plus_table) .none kV3 dc3 pm3 an3 cd3 ct3), sl3⟩) (c3 : PySem.W.codeIn K cd3 "plus_table" = true) (k3 : PySem.W.keepIn K (.ref f3) = true)
    {f4 : Addr} {od4 an4 : Option Addr} {sl4 : Array (Option Value)} {oc4 kV4 dc4 pm4 cd4 ct4 : Value}
    (a4 : PySem.W.nsIn K mainGlobals "scaled_table" = some (some (.ref f4))) (l4 : K.lookup f4 = some ⟨oc4, od4, .func (PySem.W.fnOf "scaled_table" "scaled_table" (defArgs s_d_scaled_table) (defBody s_d_scaled_table) (defScope s_d_scaled_table) .none kV4 dc4 pm4 an4 cd4 ct4), sl4⟩) (c4 : PySem.W.codeIn K cd4 "scaled_table" = true) (k4 : PySem.W.keepIn K (.ref f4) = true)
    {f5 : Addr} {od5 an5 : Option Addr} {sl5 : Array (Option Value)} {oc5 kV5 dc5 pm5 cd5 ct5 : Value}
    (a5 : PySem.W.nsIn K mainGlobals "power_table" = some (some (.ref f5))) (l5 : K.lookup f5 = some ⟨oc5, od5, .func (PySem.W.fnOf "power_table" "power_table" (defArgs s_d_power_table) (defBody s_d_power_table) (defScope s_d_power_table) .none kV5 dc5 pm5 an5 cd5 ct5), sl5⟩) (c5 : PySem.W.codeIn K cd5 "power_table" = true) (k5 : PySem.W.keepIn K (.ref f5) = true)
    {f6 : Addr} {od6 an6 : Option Addr} {sl6 : Array (Option Value)} {oc6 kV6 dc6 pm6 cd6 ct6 : Value}
    (a6 : PySem.W.nsIn K mainGlobals "trace_of" = some (some (.ref f6))) (l6 : K.lookup f6 = some ⟨oc6, od6, .func (PySem.W.fnOf "trace_of" "trace_of" (defArgs s_d_trace_of) (defBody s_d_trace_of) (defScope s_d_trace_of) .none kV6 dc6 pm6 an6 cd6 ct6), sl6⟩) (c6 : PySem.W.codeIn K cd6 "trace_of" = true) (k6 : PySem.W.keepIn K (.ref f6) = true)
    {f7 : Addr} {od7 an7 : Option Addr} {sl7 : Array (Option Value)} {oc7 kV7 dc7 pm7 cd7 ct7 : Value}
    (a7 : PySem.W.nsIn K mainGlobals "flipped_table" = some (some (.ref f7))) (l7 : K.lookup f7 = some ⟨oc7, od7, .func (PySem.W.fnOf "flipped_table" "flipped_table" (defArgs s_d_flipped_table) (defBody s_d_flipped_table) (defScope s_d_flipped_table) .none kV7 dc7 pm7 an7 cd7 ct7), sl7⟩) (c7 : PySem.W.codeIn K cd7 "flipped_table" = true) (k7 : PySem.W.keepIn K (.ref f7) = true)
    {f8 : Addr} {od8 an8 : Option Addr} {sl8 : Array (Option Value)} {oc8 kV8 dc8 pm8 cd8 ct8 : Value}
    (a8 : PySem.W.nsIn K mainGlobals "characteristic" = some (some (.ref f8))) (l8 : K.lookup f8 = some ⟨oc8, od8, .func (PySem.W.fnOf "characteristic" "characteristic" (defArgs s_d_characteristic) (defBody s_d_characteristic) (defScope s_d_characteristic) .none kV8 dc8 pm8 an8 cd8 ct8), sl8⟩) (c8 : PySem.W.codeIn K cd8 "characteristic" = true) (k8 : PySem.W.keepIn K (.ref f8) = true)
    {f9 : Addr} {od9 an9 : Option Addr} {sl9 : Array (Option Value)} {oc9 kV9 dc9 pm9 cd9 ct9 : Value}
    (a9 : PySem.W.nsIn K mainGlobals "determinant_of" = some (some (.ref f9))) (l9 : K.lookup f9 = some ⟨oc9, od9, .func (PySem.W.fnOf "determinant_of" "determinant_of" (defArgs s_d_determinant_of) (defBody s_d_determinant_of) (defScope s_d_determinant_of) .none kV9 dc9 pm9 an9 cd9 ct9), sl9⟩) (c9 : PySem.W.codeIn K cd9 "determinant_of" = true) (k9 : PySem.W.keepIn K (.ref f9) = true)
    {f10 : Addr} {od10 an10 : Option Addr} {sl10 : Array (Option Value)} {oc10 kV10 dc10 pm10 cd10 ct10 : Value}
    (a10 : PySem.W.nsIn K mainGlobals "traces" = some (some (.ref f10))) (l10 : K.lookup f10 = some ⟨oc10, od10, .func (PySem.W.fnOf "traces" "traces" (defArgs s_d_traces) (defBody s_d_traces) (defScope s_d_traces) .none kV10 dc10 pm10 an10 cd10 ct10), sl10⟩) (c10 : PySem.W.codeIn K cd10 "traces" = true) (k10 : PySem.W.keepIn K (.ref f10) = true)
    {f11 : Addr} {od11 an11 : Option Addr} {sl11 : Array (Option Value)} {oc11 kV11 dc11 pm11 cd11 ct11 : Value}
    (a11 : PySem.W.nsIn K mainGlobals "traces_by_numbers" = some (some (.ref f11))) (l11 : K.lookup f11 = some ⟨oc11, od11, .func (PySem.W.fnOf "traces_by_numbers" "traces_by_numbers" (defArgs s_d_traces_by_numbers) (defBody s_d_traces_by_numbers) (defScope s_d_traces_by_numbers) .none kV11 dc11 pm11 an11 cd11 ct11), sl11⟩) (c11 : PySem.W.codeIn K cd11 "traces_by_numbers" = true) (k11 : PySem.W.keepIn K (.ref f11) = true)
    {f12 : Addr} {od12 an12 : Option Addr} {sl12 : Array (Option Value)} {oc12 kV12 dc12 pm12 cd12 ct12 : Value}
    (a12 : PySem.W.nsIn K mainGlobals "is_nilpotent" = some (some (.ref f12))) (l12 : K.lookup f12 = some ⟨oc12, od12, .func (PySem.W.fnOf "is_nilpotent" "is_nilpotent" (defArgs s_d_is_nilpotent) (defBody s_d_is_nilpotent) (defScope s_d_is_nilpotent) .none kV12 dc12 pm12 an12 cd12 ct12), sl12⟩) (c12 : PySem.W.codeIn K cd12 "is_nilpotent" = true) (k12 : PySem.W.keepIn K (.ref f12) = true)
    {f13 : Addr} {od13 an13 : Option Addr} {sl13 : Array (Option Value)} {oc13 kV13 dc13 pm13 cd13 ct13 : Value}
    (a13 : PySem.W.nsIn K mainGlobals "_law_start" = some (some (.ref f13))) (l13 : K.lookup f13 = some ⟨oc13, od13, .func (PySem.W.fnOf "_law_start" "_law_start" (defArgs s_d_law_start) (defBody s_d_law_start) (defScope s_d_law_start) .none kV13 dc13 pm13 an13 cd13 ct13), sl13⟩) (c13 : PySem.W.codeIn K cd13 "_law_start" = true) (k13 : PySem.W.keepIn K (.ref f13) = true)
    {f14 : Addr} {od14 an14 : Option Addr} {sl14 : Array (Option Value)} {oc14 kV14 dc14 pm14 cd14 ct14 : Value}
    (a14 : PySem.W.nsIn K mainGlobals "_law_pick" = some (some (.ref f14))) (l14 : K.lookup f14 = some ⟨oc14, od14, .func (PySem.W.fnOf "_law_pick" "_law_pick" (defArgs s_d_law_pick) (defBody s_d_law_pick) (defScope s_d_law_pick) .none kV14 dc14 pm14 an14 cd14 ct14), sl14⟩) (c14 : PySem.W.codeIn K cd14 "_law_pick" = true) (k14 : PySem.W.keepIn K (.ref f14) = true)
    {f15 : Addr} {od15 an15 : Option Addr} {sl15 : Array (Option Value)} {oc15 kV15 dc15 pm15 cd15 ct15 : Value}
    (a15 : PySem.W.nsIn K mainGlobals "_law_same" = some (some (.ref f15))) (l15 : K.lookup f15 = some ⟨oc15, od15, .func (PySem.W.fnOf "_law_same" "_law_same" (defArgs s_d_law_same) (defBody s_d_law_same) (defScope s_d_law_same) .none kV15 dc15 pm15 an15 cd15 ct15), sl15⟩) (c15 : PySem.W.codeIn K cd15 "_law_same" = true) (k15 : PySem.W.keepIn K (.ref f15) = true)
    {f16 : Addr} {od16 an16 : Option Addr} {sl16 : Array (Option Value)} {oc16 kV16 dc16 pm16 cd16 ct16 : Value}
    (a16 : PySem.W.nsIn K mainGlobals "_law_table" = some (some (.ref f16))) (l16 : K.lookup f16 = some ⟨oc16, od16, .func (PySem.W.fnOf "_law_table" "_law_table" (defArgs s_d_law_table) (defBody s_d_law_table) (defScope s_d_law_table) .none kV16 dc16 pm16 an16 cd16 ct16), sl16⟩) (c16 : PySem.W.codeIn K cd16 "_law_table" = true) (k16 : PySem.W.keepIn K (.ref f16) = true)
    {f17 : Addr} {od17 an17 : Option Addr} {sl17 : Array (Option Value)} {oc17 kV17 dc17 pm17 cd17 ct17 : Value}
    (a17 : PySem.W.nsIn K mainGlobals "_law_product" = some (some (.ref f17))) (l17 : K.lookup f17 = some ⟨oc17, od17, .func (PySem.W.fnOf "_law_product" "_law_product" (defArgs s_d_law_product) (defBody s_d_law_product) (defScope s_d_law_product) .none kV17 dc17 pm17 an17 cd17 ct17), sl17⟩) (c17 : PySem.W.codeIn K cd17 "_law_product" = true) (k17 : PySem.W.keepIn K (.ref f17) = true)
    {f18 : Addr} {od18 an18 : Option Addr} {sl18 : Array (Option Value)} {oc18 kV18 dc18 pm18 cd18 ct18 : Value}
    (a18 : PySem.W.nsIn K mainGlobals "_law_determinant" = some (some (.ref f18))) (l18 : K.lookup f18 = some ⟨oc18, od18, .func (PySem.W.fnOf "_law_determinant" "_law_determinant" (defArgs s_d_law_determinant) (defBody s_d_law_determinant) (defScope s_d_law_determinant) .none kV18 dc18 pm18 an18 cd18 ct18), sl18⟩) (c18 : PySem.W.codeIn K cd18 "_law_determinant" = true) (k18 : PySem.W.keepIn K (.ref f18) = true)
    {f19 : Addr} {od19 an19 : Option Addr} {sl19 : Array (Option Value)} {oc19 kV19 dc19 pm19 cd19 ct19 : Value}
    (a19 : PySem.W.nsIn K mainGlobals "law" = some (some (.ref f19))) (l19 : K.lookup f19 = some ⟨oc19, od19, .func (PySem.W.fnOf "law" "law" (defArgs s_d_law) (defBody s_d_law) (defScope s_d_law) .none kV19 dc19 pm19 an19 cd19 ct19), sl19⟩) (c19 : PySem.W.codeIn K cd19 "law" = true) (k19 : PySem.W.keepIn K (.ref f19) = true)
    (z0 : PySem.W.nsIn K mainGlobals "len" = some none)
    (z1 : PySem.W.nsIn K mainGlobals "tuple" = some none)
    (z2 : PySem.W.nsIn K mainGlobals "list" = some none)
    (z3 : PySem.W.nsIn K mainGlobals "sum" = some none)
    (z4 : PySem.W.nsIn K mainGlobals "all" = some none)
    (z5 : PySem.W.nsIn K mainGlobals "any" = some none)
    (z6 : PySem.W.nsIn K mainGlobals "max" = some none)
    (z7 : PySem.W.nsIn K mainGlobals "min" = some none)
    (z8 : PySem.W.nsIn K mainGlobals "abs" = some none)
    (z9 : PySem.W.nsIn K mainGlobals "int" = some none)
    (z10 : PySem.W.nsIn K mainGlobals "range" = some none)
    (z11 : PySem.W.nsIn K mainGlobals "isinstance" = some none)
    (z12 : PySem.W.nsIn K mainGlobals "bool" = some none)
    (z13 : PySem.W.nsIn K mainGlobals "str" = some none) :
    ∃ fd : FuncData, (∀ (s : Shared) (v : Value), BindsTo s fd ⟨[v], []⟩ [("script", v)]) ∧ ∀ base : Heap, K.In base → base.Ns mainGlobals mg → FnOk P w K mg base CX0 31 fa fd ["script"] (spLaw K) := by
  have D : ∀ d ∈ defs, DefIn K mg d := by
    intro d hd
    simp only [defs, List.mem_cons, List.not_mem_nil, or_false] at hd
    rcases hd with rfl | rfl | rfl | rfl | rfl | rfl | rfl | rfl | rfl | rfl | rfl | rfl | rfl | rfl | rfl | rfl | rfl | rfl | rfl | rfl
    · exact defIn_mk (d := d_is_square) (st := s_d_is_square) (n := 60) X G a0 l0 c0 k0 bd_d_is_square sc_d_is_square (by decide) ck_d_is_square
    · exact defIn_mk (d := d_unit_table) (st := s_d_unit_table) (n := 60) X G a1 l1 c1 k1 bd_d_unit_table sc_d_unit_table (by decide) ck_d_unit_table
    · exact defIn_mk (d := d_times_table) (st := s_d_times_table) (n := 60) X G a2 l2 c2 k2 bd_d_times_table sc_d_times_table (by decide) ck_d_times_table
    · exact defIn_mk (d := d_plus_table) (st := s_d_plus_table) (n := 60) X G a3 l3 c3 k3 bd_d_plus_table sc_d_plus_table (by decide) ck_d_plus_table
    · exact defIn_mk (d := d_scaled_table) (st := s_d_scaled_table) (n := 60) X G a4 l4 c4 k4 bd_d_scaled_table sc_d_scaled_table (by decide) ck_d_scaled_table
    · exact defIn_mk (d := d_power_table) (st := s_d_power_table) (n := 60) X G a5 l5 c5 k5 bd_d_power_table sc_d_power_table (by decide) ck_d_power_table
    · exact defIn_mk (d := d_trace_of) (st := s_d_trace_of) (n := 60) X G a6 l6 c6 k6 bd_d_trace_of sc_d_trace_of (by decide) ck_d_trace_of
    · exact defIn_mk (d := d_flipped_table) (st := s_d_flipped_table) (n := 60) X G a7 l7 c7 k7 bd_d_flipped_table sc_d_flipped_table (by decide) ck_d_flipped_table
    · exact defIn_mk (d := d_characteristic) (st := s_d_characteristic) (n := 60) X G a8 l8 c8 k8 bd_d_characteristic sc_d_characteristic (by decide) ck_d_characteristic
    · exact defIn_mk (d := d_determinant_of) (st := s_d_determinant_of) (n := 60) X G a9 l9 c9 k9 bd_d_determinant_of sc_d_determinant_of (by decide) ck_d_determinant_of
    · exact defIn_mk (d := d_traces) (st := s_d_traces) (n := 60) X G a10 l10 c10 k10 bd_d_traces sc_d_traces (by decide) ck_d_traces
    · exact defIn_mk (d := d_traces_by_numbers) (st := s_d_traces_by_numbers) (n := 60) X G a11 l11 c11 k11 bd_d_traces_by_numbers sc_d_traces_by_numbers (by decide) ck_d_traces_by_numbers
    · exact defIn_mk (d := d_is_nilpotent) (st := s_d_is_nilpotent) (n := 60) X G a12 l12 c12 k12 bd_d_is_nilpotent sc_d_is_nilpotent (by decide) ck_d_is_nilpotent
    · exact defIn_mk (d := d_law_start) (st := s_d_law_start) (n := 60) X G a13 l13 c13 k13 bd_d_law_start sc_d_law_start (by decide) ck_d_law_start
    · exact defIn_mk (d := d_law_pick) (st := s_d_law_pick) (n := 60) X G a14 l14 c14 k14 bd_d_law_pick sc_d_law_pick (by decide) ck_d_law_pick
    · exact defIn_mk (d := d_law_same) (st := s_d_law_same) (n := 60) X G a15 l15 c15 k15 bd_d_law_same sc_d_law_same (by decide) ck_d_law_same
    · exact defIn_mk (d := d_law_table) (st := s_d_law_table) (n := 60) X G a16 l16 c16 k16 bd_d_law_table sc_d_law_table (by decide) ck_d_law_table
    · exact defIn_mk (d := d_law_product) (st := s_d_law_product) (n := 60) X G a17 l17 c17 k17 bd_d_law_product sc_d_law_product (by decide) ck_d_law_product
    · exact defIn_mk (d := d_law_determinant) (st := s_d_law_determinant) (n := 60) X G a18 l18 c18 k18 bd_d_law_determinant sc_d_law_determinant (by decide) ck_d_law_determinant
    · exact defIn_mk (d := d_law) (st := s_d_law) (n := 60) X G a19 l19 c19 k19 bd_d_law sc_d_law (by decide) ck_d_law
  have Z : ∀ x ∈ bnames, mg x = none := by
    intro x hx
    simp only [bnames, List.mem_cons, List.not_mem_nil, or_false] at hx
    rcases hx with rfl | rfl | rfl | rfl | rfl | rfl | rfl | rfl | rfl | rfl | rfl | rfl | rfl | rfl
    · exact PySem.W.mg_none_of X G z0
    · exact PySem.W.mg_none_of X G z1
    · exact PySem.W.mg_none_of X G z2
    · exact PySem.W.mg_none_of X G z3
    · exact PySem.W.mg_none_of X G z4
    · exact PySem.W.mg_none_of X G z5
    · exact PySem.W.mg_none_of X G z6
    · exact PySem.W.mg_none_of X G z7
    · exact PySem.W.mg_none_of X G z8
    · exact PySem.W.mg_none_of X G z9
    · exact PySem.W.mg_none_of X G z10
    · exact PySem.W.mg_none_of X G z11
    · exact PySem.W.mg_none_of X G z12
    · exact PySem.W.mg_none_of X G z13
  have F := fun_mk (st := s_d_law) l19 c19 k19
  have e := hfa.symm.trans (PySem.W.mg_of X G a19)
  cases e
  exact ⟨PySem.W.fnOf "law" "law" (defArgs s_d_law) (defBody s_d_law) (defScope s_d_law) .none kV19 dc19 pm19 an19 cd19 ct19, fun s v => .of_eq rfl, fun base _ _ => law_fn (ps := ["script"]) hL (def_ok (P := P) (w := w) (base := base) F sc_d_law (by decide) ck_d_law (fun f g h => sig_ok D Z 30 f g h) Z) rfl⟩
end LW
open PySem PySem.W PyProof.Rows
set_option maxHeartbeats 0 in
theorem PySem.Challenge.cw_shiftwright_k03_tables_of_numbers_holds : PySem.Challenge.rw_shiftwright_k03_tables_of_numbers.Holds := by
  w_on; o_law; k_head; (case hw => w_witness2)
  k_fill
  refine L2.walk_of (l := PySem.Challenge.rw_shiftwright_k03_tables_of_numbers) (n := 63) (k := 31) (x := "script") (CX := fun _ => L2.CX0) (sp := fun w => Px.spLaw _) rfl (by decide) rfl ⟨rfl, by decide, by decide⟩ (fun w h Y => PySem.W.kIn_of Y) ?F (fun _ _ a ns hl _ hS => Px.law_sp hl hS) (fun _ _ _ _ _ h => h)
  case F =>
    intro w mg fa h KX G hmg
    refine' LW.all_mk KX G hmg LW.law_true ?a0 ?l0 ?c0 ?k0 ?a1 ?l1 ?c1 ?k1 ?a2 ?l2 ?c2 ?k2 ?a3 ?l3 ?c3 ?k3 ?a4 ?l4 ?c4 ?k4 ?a5 ?l5 ?c5 ?k5 ?a6 ?l6 ?c6 ?k6 ?a7 ?l7 ?c7 ?k7 ?a8 ?l8 ?c8 ?k8 ?a9 ?l9 ?c9 ?k9 ?a10 ?l10 ?c10 ?k10 ?a11 ?l11 ?c11 ?k11 ?a12 ?l12 ?c12 ?k12 ?a13 ?l13 ?c13 ?k13 ?a14 ?l14 ?c14 ?k14 ?a15 ?l15 ?c15 ?k15 ?a16 ?l16 ?c16 ?k16 ?a17 ?l17 ?c17 ?k17 ?a18 ?l18 ?c18 ?k18 ?a19 ?l19 ?c19 ?k19 ?z0 ?z1 ?z2 ?z3 ?z4 ?z5 ?z6 ?z7 ?z8 ?z9 ?z10 ?z11 ?z12 ?z13
    (case a0 => k_is); (case l0 => k_is); (case c0 => k_is); (case k0 => k_is); (case a1 => k_is); (case l1 => k_is); (case c1 => k_is); (case k1 => k_is); (case a2 => k_is); (case l2 => k_is); (case c2 => k_is); (case k2 => k_is); (case a3 => k_is); (case l3 => k_is); (case c3 => k_is); (case k3 => k_is); (case a4 => k_is); (case l4 => k_is); (case c4 => k_is); (case k4 => k_is); (case a5 => k_is); (case l5 => k_is); (case c5 => k_is); (case k5 => k_is); (case a6 => k_is); (case l6 => k_is); (case c6 => k_is); (case k6 => k_is); (case a7 => k_is); (case l7 => k_is); (case c7 => k_is); (case k7 => k_is); (case a8 => k_is); (case l8 => k_is); (case c8 => k_is); (case k8 => k_is); (case a9 => k_is); (case l9 => k_is); (case c9 => k_is); (case k9 => k_is); (case a10 => k_is); (case l10 => k_is); (case c10 => k_is); (case k10 => k_is); (case a11 => k_is); (case l11 => k_is); (case c11 => k_is); (case k11 => k_is); (case a12 => k_is); (case l12 => k_is); (case c12 => k_is); (case k12 => k_is); (case a13 => k_is); (case l13 => k_is); (case c13 => k_is); (case k13 => k_is); (case a14 => k_is); (case l14 => k_is); (case c14 => k_is); (case k14 => k_is); (case a15 => k_is); (case l15 => k_is); (case c15 => k_is); (case k15 => k_is); (case a16 => k_is); (case l16 => k_is); (case c16 => k_is); (case k16 => k_is); (case a17 => k_is); (case l17 => k_is); (case c17 => k_is); (case k17 => k_is); (case a18 => k_is); (case l18 => k_is); (case c18 => k_is); (case k18 => k_is); (case a19 => k_is); (case l19 => k_is); (case c19 => k_is); (case k19 => k_is); (case z0 => k_is); (case z1 => k_is); (case z2 => k_is); (case z3 => k_is); (case z4 => k_is); (case z5 => k_is); (case z6 => k_is); (case z7 => k_is); (case z8 => k_is); (case z9 => k_is); (case z10 => k_is); (case z11 => k_is); (case z12 => k_is); (case z13 => k_is)
