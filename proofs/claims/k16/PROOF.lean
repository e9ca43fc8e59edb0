import PyProof.Rows.All
import Wide.All
import OpenK.AllK
import Wide.FinOn
import HandS.Base
import HandS.Call
import HandS.List
import HandS.Exc
import HandS.SlotsVar
import HandS.Slots
import HandS.SlotsOwn
import HandS.Comp
import HandS.SortRule
import HandS.SortInts
import HandS.Wide
import HandS.TupAny
import HandS.IsInst
import HandS.Style
import HandS.Flow
import HandS.ExcOwn
import KE.KTupSum
import HandS.CallRecv
import HandS.CallSlots
import HandS.Iter
import HandS.Zip
import KE.GoesEnum
import HandS.WordsExc
import HandS.WideMore
import HandS.Defaults
import HandS.Head0
import HandS.Head1
import HandS.Head2
import HandS.HeadEnd
import HandS.HeadHook1
import HandS.HeadHook2
import HandS.HeadNt
import PySem.Challenge.RW_carryloads_k16_whole_stocks
set_option Elab.async false
set_option linter.all false
set_option maxRecDepth 100000
set_option maxHeartbeats 0
/-! R1: the pure part: abstract values, memory, own syntax, semantics. -/
namespace Rf
open PySem L2

/-- an abstract value -/
inductive D where
  | non | bl (b : Bool) | int (i : Int) | str (s : Str)
  | tup (xs : List D) | lst (xs : List D) | scr (xs : List Int) | ins (c : Nat) (fs : List D) | ref (n : Nat) | fn (f : Nat)

mutual
def D.beq : D → D → Bool
  | .non, .non => true
  | .bl a, .bl b => decide (a = b)
  | .int a, .int b => decide (a = b)
  | .str a, .str b => decide (a = b)
  | .tup a, .tup b => D.beqs a b
  | .lst a, .lst b => D.beqs a b
  | .scr a, .scr b => decide (a = b)
  | .ins c a, .ins d b => decide (c = d) && D.beqs a b
  | .ref a, .ref b => decide (a = b)
  | .fn a, .fn b => decide (a = b)
  | _, _ => false
def D.beqs : List D → List D → Bool
  | [], [] => true
  | x :: xs, y :: ys => D.beq x y && D.beqs xs ys
  | _, _ => false
end
mutual
theorem D.beq_eq : ∀ (a b : D), D.beq a b = true → a = b
  | .non, b, h => by cases b <;> simp_all [D.beq]
  | .bl a, b, h => by cases b <;> simp_all [D.beq]
  | .int a, b, h => by cases b <;> simp_all [D.beq]
  | .str a, b, h => by cases b <;> simp_all [D.beq]
  | .tup a, b, h => by
    cases b with
    | tup b => simp only [D.beq] at h; rw [D.beqs_eq a b h]
    | _ => simp [D.beq] at h
  | .lst a, b, h => by
    cases b with
    | lst b => simp only [D.beq] at h; rw [D.beqs_eq a b h]
    | _ => simp [D.beq] at h
  | .scr a, b, h => by cases b <;> simp_all [D.beq]
  | .ins c a, b, h => by
    cases b with
    | ins d b =>
      simp only [D.beq, Bool.and_eq_true, decide_eq_true_eq] at h
      rw [h.1, D.beqs_eq a b h.2]
    | _ => simp [D.beq] at h
  | .ref a, b, h => by cases b <;> simp_all [D.beq]
  | .fn a, b, h => by cases b <;> simp_all [D.beq]
theorem D.beqs_eq : ∀ (a b : List D), D.beqs a b = true → a = b
  | [], [], _ => rfl
  | [], _ :: _, h => by simp [D.beqs] at h
  | _ :: _, [], h => by simp [D.beqs] at h
  | x :: xs, y :: ys, h => by
    simp only [D.beqs, Bool.and_eq_true] at h
    rw [D.beq_eq x y h.1, D.beqs_eq xs ys h.2]
end
mutual
theorem D.beq_self : ∀ a : D, D.beq a a = true
  | .non => rfl
  | .bl a => by simp [D.beq]
  | .int a => by simp [D.beq]
  | .str a => by simp [D.beq]
  | .tup a => by simp only [D.beq]; exact D.beqs_self a
  | .lst a => by simp only [D.beq]; exact D.beqs_self a
  | .scr a => by simp [D.beq]
  | .ins c a => by simp only [D.beq, D.beqs_self a, decide_true, Bool.and_self]
  | .ref a => by simp [D.beq]
  | .fn a => by simp [D.beq]
theorem D.beqs_self : ∀ a : List D, D.beqs a a = true
  | [] => rfl
  | x :: xs => by simp only [D.beqs, D.beq_self x, D.beqs_self xs, Bool.and_self]
end
instance : DecidableEq D := fun a b => if h : D.beq a b = true then .isTrue (D.beq_eq a b h) else .isFalse fun e => h (by rw [e]; exact D.beq_self b)

/-! all refs are below n -/
mutual
def D.low (n : Nat) : D → Bool
  | .tup xs => D.lows n xs
  | .lst xs => D.lows n xs
  | .ins _ fs => D.lows n fs
  | .ref i => decide (i < n)
  | _ => true
def D.lows (n : Nat) : List D → Bool
  | [] => true
  | x :: xs => D.low n x && D.lows n xs
end

inductive Cell where
  | lst (xs : List D) | obj (c : Nat) (fs : List (Option D)) | dK (kvs : List (Key × D)) | dT (kvs : List (List Key × D))
  deriving DecidableEq

abbrev Mem := List Cell
abbrev Env := List (Option D)

inductive R (α : Type) where
  | ok (a : α) | exc (c : Nat) (fs : List D) (m : Mem) | bad

def R.bind {α β : Type} (r : R α) (f : α → R β) : R β := match r with
  | .ok a => f a
  | .exc c fs m => .exc c fs m
  | .bad => .bad

/-- nothing is raised -/
def nox {α : Type} (r : R α) : R α := match r with
  | .ok a => .ok a
  | _ => .bad

/-- the operators and calls that take values -/
inductive Prim where
  | tup | lst (fz : Bool)
  | add (fz : Bool) | sub | mul (fz : Bool) | fdiv | mod | pow | neg | not
  | eq | ne | lt | le | gt | ge | is_ | isnot | in_ | notin
  | ix | slice (lo hi : Bool) (fz : Bool) | back (fz : Bool)
  | call (f : Nat) | new (c : Nat) | attr (name : Str) | meth (name : Str)
  | len | sum | max1 | min1 | max2 | min2 | abs | int | tupOf | listOf (fz : Bool) | sorted (fz : Bool) | all | any
  | isI (t : String) | isC (c : Nat)
  deriving DecidableEq

/-- targets -/
inductive CT where
  | name (i : Nat) | tup (ts : List CT)

mutual
inductive CE where
  | var (i : Nat) | const (d : D) | glob (i : Nat)
  | op (p : Prim) (es : CEs)
  | andE (a b : CE) | orE (a b : CE) | ife (c a b : CE)
  | chain (p q : Prim) (a b c : CE)
  | lc (fz : Bool) (own : List Nat) (t : CT) (it : CI) (ifs : CEs) (e : CE)
  | meth (k : Nat) (name : Str) (o : CE) (es : CEs)
  | slc (fz : Bool) (a b d : CE)
inductive CEs where
  | nil | cons (e : CE) (es : CEs)
inductive CI where
  | over (e : CE) | range (es : CEs) | zip (a b : CE) | enum (a : CE)
end

/-- targets of all kinds -/
inductive GT where
  | name (i : Nat) | ix (o i : CE) | attr (o : CE) (f : Str) | tup (ts : List GT)
mutual
inductive CS where
  | expr (e : CE) | assign (t : CT) (e : CE) | par (is : List Nat) (es : CEs) | aug (i : Nat) (p : Prim) (e : CE)
  | setIx (o i e : CE) | setAttr (o : CE) (f : Str) (e : CE) | asgG (t : GT) (e : CE)
  | ret (e : CE) | retN | ifs (c : CE) (a b : CSs) | whil (c : CE) (b : CSs) | fors (t : CT) (it : CI) (b : CSs)
  | pass | brk | cont | bad | raise (c : Nat) (es : CEs)
inductive CSs where
  | nil | cons (s : CS) (ss : CSs)
end

structure Fn where
  nargs : Nat
  nslots : Nat
  body : CSs
structure Cl where
  fields : List Str
  init : Nat
  meths : List (Str × Nat)
  props : List (Str × Nat)
  frozen : Bool
structure Prg where
  funs : List Fn
  cls : List Cl
  consts : List D

/-! ### values -/
def BIG : Nat := 10 ^ 1000
def Sm (i : Int) : Bool := decide (i.natAbs < BIG)
def s64 (i : Int) : Bool := decide (-(2 ^ 64) < i) && decide (i < 2 ^ 64)
/-- a product that is not too great -/
def mulB (i j : Int) : Bool := s64 i || s64 j || (Sm i && Sm j)
def LIM : Nat := 16777216
def mkT (xs : List D) (m : Mem) : R (D × Mem) := if xs.length ≤ LIM then .ok (.tup xs, m) else .bad
def mkL (fz : Bool) (xs : List D) (m : Mem) : R (D × Mem) := if xs.length ≤ LIM then (if fz then .ok (.lst xs, m) else .ok (.ref m.length, m ++ [.lst xs])) else .bad
/-- a list's items -/
def lstOf (m : Mem) : D → Option (List D)
  | .lst xs => some xs
  | .ref n => match m[n]? with
    | some (.lst xs) => some xs
    | _ => none
  | _ => none
/-- a list's or tuple's items -/
def itemsOf (m : Mem) : D → Option (List D)
  | .tup xs => some xs
  | d => lstOf m d

/-! data, as == sees it -/
mutual
def D.dat (rf : Nat → Option PyData) : D → Option PyData
  | .non => some .none
  | .bl b => some (.bool b)
  | .int i => some (.int i)
  | .str s => some (.str s)
  | .tup xs => (D.dats rf xs).map .tuple
  | .lst xs => (D.dats rf xs).map .list
  | .ref n => rf n
  | _ => none
def D.dats (rf : Nat → Option PyData) : List D → Option (List PyData)
  | [] => some []
  | x :: xs => match D.dat rf x, D.dats rf xs with
    | some a, some b => some (a :: b)
    | _, _ => none
end
def refDat (m : Mem) : Nat → Nat → Option PyData
  | 0, _ => none
  | k + 1, n => match m[n]? with
    | some (.lst xs) => (D.dats (refDat m k) xs).map .list
    | _ => none
def datOf (m : Mem) (d : D) : Option PyData := D.dat (refDat m 4) d

def truth (m : Mem) : D → Option Bool
  | .non => some false
  | .bl b => some b
  | .int i => some (i != 0)
  | .str s => if s.length ≤ LIM then some ((s.length : Int) != 0) else none
  | .tup xs => some (!xs.isEmpty)
  | .lst xs => some (!xs.isEmpty)
  | .ref n => match m[n]? with
    | some (.lst xs) => some (!xs.isEmpty)
    | _ => none
  | _ => none

def intsD : List D → Option (List Int)
  | [] => some []
  | .int i :: r => (intsD r).map (i :: ·)
  | _ :: _ => none
def boolsD : List D → Option (List Bool)
  | [] => some []
  | .bl i :: r => (boolsD r).map (i :: ·)
  | _ :: _ => none
def pairsD : List D → Option (List (Int × Int))
  | [] => some []
  | .tup [.int i, .int j] :: r => (pairsD r).map ((i, j) :: ·)
  | _ :: _ => none
def pairT (p : Int × Int) : D := .tup [.int p.1, .int p.2]
def lexLe (p q : Int × Int) : Bool := decide (p.1 < q.1) || (decide (p.1 = q.1) && decide (p.2 ≤ q.2))
def maxI : List Int → Int
  | [] => 0
  | [x] => x
  | x :: r => max x (maxI r)
def minI : List Int → Int
  | [] => 0
  | [x] => x
  | x :: r => min x (minI r)

/-! ### a call's end: what was made within and is not handed out is forgotten -/
def Cell.low (n : Nat) : Cell → Bool
  | .lst xs => D.lows n xs
  | .obj _ fs => fs.all fun | some d => d.low n | none => true
  | .dK kvs => kvs.all fun p => p.2.low n
  | .dT kvs => kvs.all fun p => p.2.low n
/-- the cells that stood before: as they were, or without anything new -/
def oldOk (n : Nat) : Mem → Mem → Bool
  | [], _ => true
  | c :: m, c' :: m' => (decide (c = c') || c'.low n) && oldOk n m m'
  | _ :: _, [] => false
def cut (m0 : Mem) (d : D) (m : Mem) : D × Mem :=
  if oldOk m0.length m0 m then
    if d.low m0.length then (d, m.take m0.length)
    else match d with
      | .ref i => match m[i]? with
        | some c => if c.low m0.length && decide (m0.length ≤ i) then (.ref m0.length, m.take m0.length ++ [c]) else (d, m)
        | none => (d, m)
      | _ => (d, m)
  else (d, m)

inductive Fl where
  | nx | bk | ct | rt (d : D)

section
variable (P : Prg) (call : Nat → List D → Mem → R (D × Mem))

def arith (f : Int → Int → R (D × Mem)) : List D → R (D × Mem)
  | [.int i, .int j] => f i j
  | _ => .bad
def allOk (xs : List D) : Option Bool := (boolsD xs).map fun bs => bs.all id
/-- an attribute's value -/
def attrOf (c : Nat) (fs : List (Option D)) (self : D) (name : Str) (m : Mem) : R (D × Mem) := match P.cls[c]? with
  | some cl => match cl.fields.findIdx? (fun x => decide (x = name)) with
    | some i => match fs[i]? with
      | some (some d) => .ok (d, m)
      | _ => .bad
    | none => match cl.props.lookup name with
      | some f => nox (call f [self] m)
      | none => .bad
  | none => .bad
def methOf (c : Nat) (self : D) (name : Str) (args : List D) (m : Mem) : R (D × Mem) := match P.cls[c]? with
  | some cl => match cl.meths.lookup name with
    | some f => call f (self :: args) m
    | none => .bad
  | none => .bad
def somes : List (Option D) → Option (List D)
  | [] => some []
  | some d :: r => (somes r).map (d :: ·)
  | none :: _ => none
/-- C(..) -/
def newOf (c : Nat) (args : List D) (m : Mem) : R (D × Mem) := match P.cls[c]? with
  | some cl => (call cl.init (.ref m.length :: args) (m ++ [.obj c []])).bind fun r => match r with
    | (.non, m') => if cl.frozen then
        match m'[m.length]? with
        | some (.obj c' fs) => match somes fs with
          | some ds => if c' = c ∧ ds.length = cl.fields.length ∧ D.lows m.length ds = true ∧ oldOk m.length m m' = true then .ok (.ins c ds, m'.take m.length) else .bad
          | none => .bad
        | _ => .bad
      else .ok (.ref m.length, m')
    | _ => .bad
  | none => .bad
def putO (i : Nat) (v : D) (vs : List (Option D)) : List (Option D) := (vs ++ List.replicate (i + 1 - vs.length) none).set i (some v)

/-- an instance's class -/
def selfC (m : Mem) : D → Option Nat
  | .ins c _ => some c
  | .ref n => match m[n]? with
    | some (.obj c _) => some c
    | _ => none
  | _ => none
/-- its class is known -/
def known (m : Mem) (d : D) : Bool := match selfC m d with
  | some c => (P.cls[c]?).isSome
  | none => match d with
    | .scr _ => false
    | .fn _ => false
    | .ref n => (m[n]?).isSome
    | _ => true
def eqOf (neg : Bool) (a b : D) (m : Mem) : R (D × Mem) := match selfC m a with
  | some c => if known P m b then (nox (methOf P call c a (if neg then "__ne__" else "__eq__") [b] m)).bind fun r => match r with
    | (.bl k, m') => .ok (.bl k, m')
    | _ => .bad else .bad
  | none => match datOf m a, datOf m b with
    | some x, some y => if SeqAt.shaped x && SeqAt.shaped y then .ok (.bl (if neg then !PyData.eqv x y else PyData.eqv x y), m) else .bad
    | _, _ => .bad
def flatD : D → Bool
  | .non => true
  | .bl _ => true
  | .int _ => true
  | .str _ => true
  | _ => false
def eqF : D → D → Bool
  | .non, .non => true
  | .bl a, .bl b => a == b
  | .bl a, .int b => (if a then 1 else 0) == b
  | .int a, .bl b => a == (if b then 1 else 0)
  | .int a, .int b => a == b
  | .str a, .str b => a == b
  | _, _ => false
def inOf (neg : Bool) (a b : D) (m : Mem) : R (D × Mem) := match itemsOf m b with
  | some xs => if flatD a && xs.all flatD then .ok (.bl (if neg then !xs.any fun y => eqF y a else xs.any fun y => eqF y a), m) else .bad
  | none => .bad
def cutD (xs : List D) (lo hi : Option Int) : List D := (xs.drop (HT.sIx xs.length 0 lo)).take (HT.sIx xs.length xs.length hi - HT.sIx xs.length 0 lo)

def sliceOf (fz : Bool) (o : D) (lo hi : Option Int) (m : Mem) : R (D × Mem) := match o with
  | .tup xs => .ok (.tup (cutD xs lo hi), m)
  | o => match lstOf m o with
    | some xs => mkL fz (cutD xs lo hi) m
    | none => .bad
def isIOf (t : String) : D → Mem → Option Bool
  | .non, _ => some (decide (t = "NoneType"))
  | .bl _, _ => some (decide (t = "bool") || decide (t = "int"))
  | .int _, _ => some (decide (t = "int"))
  | .str _, _ => some (decide (t = "str"))
  | .tup _, _ => some (decide (t = "tuple"))
  | .lst _, _ => some (decide (t = "list"))
  | .ref n, m => match m[n]? with
    | some (.lst _) => some (decide (t = "list"))
    | some (.dK _) => some (decide (t = "dict"))
    | some (.dT _) => some (decide (t = "dict"))
    | _ => none
  | _, _ => none

/-- what a method is called of -/
def recvK : D → Mem → Nat
  | .lst _, _ => 1
  | .ins _ _, _ => 2
  | .str _, _ => 5
  | .tup _, _ => 6
  | .ref n, m => match m[n]? with
    | some (.lst _) => 1
    | some (.obj _ _) => 2
    | some (.dK _) => 3
    | some (.dT _) => 4
    | none => 0
  | _, _ => 0
def prim : Prim → List D → Mem → R (D × Mem)
  | .tup, ds, m => mkT ds m
  | .lst fz, ds, m => mkL fz ds m
  | .add fz, ds, m => match ds with
    | [.int i, .int j] => .ok (.int (i + j), m)
    | [.str x, .str y] => if x.length + y.length ≤ LIM then .ok (.str (x ++ y), m) else .bad
    | [.tup xs, .tup ys] => mkT (xs ++ ys) m
    | [a, b] => match lstOf m a, lstOf m b with
      | some xs, some ys => mkL fz (xs ++ ys) m
      | _, _ => .bad
    | _ => .bad
  | .sub, ds, m => arith (fun i j => .ok (.int (i - j), m)) ds
  | .mul fz, ds, m => match ds with
    | [.int i, .int j] => if mulB i j then .ok (.int (i * j), m) else .bad
    | [a, .int k] => match lstOf m a with
      | some xs => if 0 ≤ k ∧ xs.length * k.toNat ≤ LIM ∧ k ≤ 16777216 then mkL fz (List.replicate k.toNat xs).flatten m else .bad
      | none => .bad
    | _ => .bad
  | .fdiv, ds, m => arith (fun i j => if 0 < j ∧ Sm j = true then .ok (.int (i / j), m) else .bad) ds
  | .mod, ds, m => arith (fun i j => if 0 < j then .ok (.int (i % j), m) else .bad) ds
  | .pow, ds, m => arith (fun i j => if 0 ≤ j ∧ j ≤ 1000 ∧ i.natAbs < 2 ^ 256 then .ok (.int (i ^ j.toNat), m) else .bad) ds
  | .neg, ds, m => match ds with
    | [.int i] => .ok (.int (-i), m)
    | _ => .bad
  | .not, ds, m => match ds with
    | [d] => match truth m d with
      | some b => .ok (.bl (!b), m)
      | none => .bad
    | _ => .bad
  | .eq, ds, m => match ds with
    | [a, b] => eqOf P call false a b m
    | _ => .bad
  | .ne, ds, m => match ds with
    | [a, b] => eqOf P call true a b m
    | _ => .bad
  | .lt, ds, m => arith (fun i j => .ok (.bl (decide (i < j)), m)) ds
  | .le, ds, m => arith (fun i j => .ok (.bl (decide (i ≤ j)), m)) ds
  | .gt, ds, m => arith (fun i j => .ok (.bl (decide (j < i)), m)) ds
  | .ge, ds, m => arith (fun i j => .ok (.bl (decide (j ≤ i)), m)) ds
  | .is_, ds, m => match ds with
    | [a, .non] => .ok (.bl (decide (a = .non)), m)
    | [.bl a, .bl b] => .ok (.bl (decide (a = b)), m)
    | _ => .bad
  | .isnot, ds, m => match ds with
    | [a, .non] => .ok (.bl (!decide (a = .non)), m)
    | [.bl a, .bl b] => .ok (.bl (!decide (a = b)), m)
    | _ => .bad
  | .in_, ds, m => match ds with
    | [a, b] => inOf false a b m
    | _ => .bad
  | .notin, ds, m => match ds with
    | [a, b] => inOf true a b m
    | _ => .bad
  | .ix, ds, m => match ds with
    | [.scr xs, .int i] => match atI xs i with
      | some x => .ok (.int x, m)
      | none => .bad
    | [o, .int i] => match (itemsOf m o).bind fun xs => atI xs i with
      | some d => .ok (d, m)
      | none => .bad
    | _ => .bad
  | .slice lo hi fz, ds, m => match lo, hi, ds with
    | false, false, [o] => sliceOf fz o none none m
    | true, false, [o, .int i] => sliceOf fz o (some i) none m
    | false, true, [o, .int j] => sliceOf fz o none (some j) m
    | _, _, _ => .bad
  | .back fz, ds, m => match ds with
    | [o] => match lstOf m o with
      | some xs => mkL fz xs.reverse m
      | none => .bad
    | _ => .bad
  | .call f, ds, m => call f ds m
  | .new c, ds, m => newOf P call c ds m
  | .attr name, ds, m => match ds with
    | [.ins c fs] => attrOf P call c (fs.map some) (.ins c fs) name m
    | [.ref n] => match m[n]? with
      | some (.obj c fs) => attrOf P call c fs (.ref n) name m
      | _ => .bad
    | _ => .bad
  | .meth name, ds, m => match ds with
    | .ref n :: args => match m[n]? with
      | some (.lst xs) => match args with
        | [d] => if name = "append" ∧ xs.length < LIM then .ok (.non, m.set n (.lst (xs ++ [d]))) else .bad
        | _ => .bad
      | _ => .bad
    | _ => .bad
  | .len, ds, m => match ds with
    | [.scr xs] => .ok (.int xs.length, m)
    | [.str s] => if s.length ≤ LIM then .ok (.int s.length, m) else .bad
    | [d] => match itemsOf m d with
      | some xs => .ok (.int xs.length, m)
      | none => .bad
    | _ => .bad
  | .sum, ds, m => match ds with
    | [d] => match (itemsOf m d).bind intsD with
      | some ns => .ok (.int ns.sum, m)
      | none => .bad
    | _ => .bad
  | .max1, ds, m => match ds with
    | [d] => match (lstOf m d).bind intsD with
      | some (n :: ns) => .ok (.int (maxI (n :: ns)), m)
      | _ => .bad
    | _ => .bad
  | .min1, ds, m => match ds with
    | [d] => match (lstOf m d).bind intsD with
      | some (n :: ns) => .ok (.int (minI (n :: ns)), m)
      | _ => .bad
    | _ => .bad
  | .max2, ds, m => arith (fun i j => .ok (.int (if j > i then j else i), m)) ds
  | .min2, ds, m => arith (fun i j => .ok (.int (if j < i then j else i), m)) ds
  | .abs, ds, m => match ds with
    | [.int i] => .ok (.int (if i < 0 then -i else i), m)
    | _ => .bad
  | .int, ds, m => match ds with
    | [.int i] => .ok (.int i, m)
    | [.bl b] => .ok (.int (if b then 1 else 0), m)
    | _ => .bad
  | .tupOf, ds, m => match ds with
    | [d] => match itemsOf m d with
      | some xs => .ok (.tup xs, m)
      | none => .bad
    | _ => .bad
  | .listOf fz, ds, m => match ds with
    | [d] => match itemsOf m d with
      | some xs => mkL fz xs m
      | none => .bad
    | _ => .bad
  | .sorted fz, ds, m => match ds with
    | [d] => match (lstOf m d).bind intsD with
      | some ns => mkL fz ((ns.mergeSort fun a b => decide (a ≤ b)).map .int) m
      | none => match (itemsOf m d).bind pairsD with
        | some ps => mkL fz ((ps.mergeSort lexLe).map pairT) m
        | none => .bad
    | _ => .bad
  | .all, ds, m => match ds with
    | [d] => match (lstOf m d).bind boolsD with
      | some bs => .ok (.bl (bs.all id), m)
      | none => .bad
    | _ => .bad
  | .any, ds, m => match ds with
    | [d] => match (lstOf m d).bind boolsD with
      | some bs => .ok (.bl (bs.any id), m)
      | none => .bad
    | _ => .bad
  | .isI t, ds, m => match ds with
    | [d] => match selfC m d with
      | some c => if (P.cls[c]?).isSome then .ok (.bl false, m) else .bad
      | none => match isIOf t d m with
        | some b => .ok (.bl b, m)
        | none => .bad
    | _ => .bad
  | .isC c, ds, m => match ds with
    | [d] => if known P m d then .ok (.bl (decide (selfC m d = some c)), m) else .bad
    | _ => .bad

/-! ### targets, walks -/
mutual
def assignT : CT → D → Env → Option Env
  | .name i, d, ρ => some (ρ.set i (some d))
  | .tup ts, .tup ds, ρ => assignTs ts ds ρ
  | .tup _, _, _ => none
def assignTs : List CT → List D → Env → Option Env
  | [], [], ρ => some ρ
  | t :: ts, d :: ds, ρ => (assignT t d ρ).bind fun ρ' => assignTs ts ds ρ'
  | _, _, _ => none
end
def wipeE (ρ : Env) : List Nat → Env
  | [] => ρ
  | v :: vs => (wipeE ρ vs).set v none
/-- what is walked: the items, and the check that the sources stand -/
structure Wk where
  items : List D
  ok : Mem → Bool
def stands (d : D) (xs : List D) (m : Mem) : Bool := match d with
  | .ref _ => decide (itemsOf m d = some xs)
  | _ => true
def wkOver (d : D) (m : Mem) : Option Wk := (itemsOf m d).map fun xs => ⟨xs, stands d xs⟩
def isT : D → Bool
  | .tup _ => true
  | _ => false
def rangeD (lo : Int) (n : Nat) : List D := (List.range n).map fun (k : Nat) => D.int (lo + k)
def small62 (i : Int) : Bool := decide (-(2 ^ 62) ≤ i) && decide (i < 2 ^ 62)
def wkRange : List D → Option Wk
  | [.int j] => if small62 j then some ⟨rangeD 0 j.toNat, fun _ => true⟩ else none
  | [.int i, .int j] => if small62 i && small62 j then some ⟨rangeD i (j - i).toNat, fun _ => true⟩ else none
  | _ => none
def zipD : List D → List D → List D
  | x :: xs, y :: ys => .tup [x, y] :: zipD xs ys
  | _, _ => []
def enumD (k : Nat) : List D → List D
  | x :: xs => .tup [.int k, x] :: enumD (k + 1) xs
  | [] => []

/-- a statement's end: how it goes on, the exception with the names as they stand -/
inductive RS where
  | ok (f : Fl) (ρ : Env) (m : Mem) | exc (c : Nat) (fs : List D) (ρ : Env) (m : Mem) | bad
def R.lift {α : Type} (ρ : Env) (r : R (α × Mem)) (k : α → Mem → RS) : RS := match r with
  | .ok (a, m) => k a m
  | .exc c fs m => .exc c fs ρ m
  | .bad => .bad
/-- on, where it goes on -/
def RS.andThen (r : RS) (k : Env → Mem → RS) : RS := match r with
  | .ok .nx ρ m => k ρ m
  | r => r
/-- a loop's turn -/
def RS.turn (r : RS) (k : Env → Mem → RS) : RS := match r with
  | .ok .nx ρ m => k ρ m
  | .ok .ct ρ m => k ρ m
  | .ok .bk ρ m => .ok .nx ρ m
  | r => r
def forL (step : Env → Mem → RS) (t : CT) (ok : Mem → Bool) : List D → Env → Mem → RS
  | [], ρ, m => if ok m then .ok .nx ρ m else .bad
  | d :: ds, ρ, m => if ok m then
      match assignT t d ρ with
      | some ρ1 => (step ρ1 m).turn fun ρ' m' => forL step t ok ds ρ' m'
      | none => .bad
    else .bad
def lcL (cond : Env → Mem → R (Bool × Mem)) (elt : Env → Mem → R (D × Mem)) (t : CT) (ok : Mem → Bool) (ρ : Env) : List D → Mem → R (List D × Mem)
  | [], m => if ok m then .ok ([], m) else .bad
  | d :: ds, m => if ok m then
      match assignT t d ρ with
      | some ρ1 => (nox (cond ρ1 m)).bind fun r => match r with
        | (true, m1) => (nox (elt ρ1 m1)).bind fun r2 => (lcL cond elt t ok ρ ds r2.2).bind fun r3 => .ok (r2.1 :: r3.1, r3.2)
        | (false, m1) => lcL cond elt t ok ρ ds m1
      | none => .bad
    else .bad
def fuelW : Nat := 2 ^ 4000
def whileN (cond : Env → Mem → R (Bool × Mem)) (body : Env → Mem → RS) : Nat → Env → Mem → RS
  | 0, _, _ => .bad
  | n + 1, ρ, m => (cond ρ m).lift ρ fun b m1 => if b then (body ρ m1).turn fun ρ' m' => whileN cond body n ρ' m' else .ok .nx ρ m1

def tst (r : R (D × Mem)) : R (Bool × Mem) := r.bind fun x => match truth x.2 x.1 with
  | some b => .ok (b, x.2)
  | none => .bad
/-- a slice's part -/
def partR (r : R (D × Mem)) : R (Option Int × Mem) := r.bind fun r => match r.1 with
  | .int i => .ok (some i, r.2)
  | _ => .bad
def setAll : List Nat → List D → Env → Option Env
  | [], [], ρ => some ρ
  | i :: is, d :: ds, ρ => setAll is ds (ρ.set i (some d))
  | _, _, _ => none

mutual
def semE : CE → Env → Mem → R (D × Mem)
  | .var i, ρ, m => match ρ[i]? with
    | some (some d) => .ok (d, m)
    | _ => .bad
  | .const d, _, m => .ok (d, m)
  | .glob i, _, m => match P.consts[i]? with
    | some d => .ok (d, m)
    | none => .bad
  | .op p es, ρ, m => (semEs es ρ m).bind fun r => prim P call p r.1 r.2
  | .andE a b, ρ, m => (semE a ρ m).bind fun r => match truth r.2 r.1 with
    | some true => semE b ρ r.2
    | some false => .ok r
    | none => .bad
  | .orE a b, ρ, m => (semE a ρ m).bind fun r => match truth r.2 r.1 with
    | some true => .ok r
    | some false => semE b ρ r.2
    | none => .bad
  | .ife c a b, ρ, m => (tst (semE c ρ m)).bind fun r => if r.1 then semE a ρ r.2 else semE b ρ r.2
  | .chain p q a b c, ρ, m => (semE a ρ m).bind fun r => (semE b ρ r.2).bind fun r2 => (prim P call p [r.1, r2.1] r2.2).bind fun r3 => match r3.1 with
    | .bl true => (semE c ρ r3.2).bind fun r4 => prim P call q [r2.1, r4.1] r4.2
    | .bl false => .ok (.bl false, r3.2)
    | _ => .bad
  | .lc fz own t it ifs e, ρ, m => (semI it ρ m).bind fun r => if r.1.items.length ≤ LIM then
      (lcL (fun ρ' m' => semIfs ifs ρ' m') (fun ρ' m' => semE e ρ' m') t r.1.ok (wipeE ρ own) r.1.items r.2).bind fun r2 => mkL fz r2.1 r2.2
    else .bad
  | .meth k name o es, ρ, m => (semE o ρ m).bind fun r => if recvK r.1 r.2 = k then match selfC r.2 r.1 with
    | some c => match (P.cls[c]?).bind fun cl => cl.meths.lookup name with
      | some f => (semEs es ρ r.2).bind fun r2 => call f (r.1 :: r2.1) r2.2
      | none => .bad
    | none => (semEs es ρ r.2).bind fun r2 => prim P call (.meth name) (r.1 :: r2.1) r2.2 else .bad
  | .slc fz a b d, ρ, m => (semE a ρ m).bind fun r => (partR (semE b ρ r.2)).bind fun r2 => (partR (semE d ρ r2.2)).bind fun r3 => sliceOf fz r.1 r2.1 r3.1 r3.2
def semEs : CEs → Env → Mem → R (List D × Mem)
  | .nil, _, m => .ok ([], m)
  | .cons e es, ρ, m => (semE e ρ m).bind fun r => (semEs es ρ r.2).bind fun r2 => .ok (r.1 :: r2.1, r2.2)
def semIfs : CEs → Env → Mem → R (Bool × Mem)
  | .nil, _, m => .ok (true, m)
  | .cons e _, ρ, m => tst (semE e ρ m)
def semI : CI → Env → Mem → R (Wk × Mem)
  | .over e, ρ, m => (semE e ρ m).bind fun r => match wkOver r.1 r.2 with
    | some w => .ok (w, r.2)
    | none => .bad
  | .range es, ρ, m => (semEs es ρ m).bind fun r => match wkRange r.1 with
    | some w => .ok (w, r.2)
    | none => .bad
  | .zip a b, ρ, m => (semE a ρ m).bind fun r => (semE b ρ r.2).bind fun r2 => if isT r.1 != isT r2.1 then .bad else match wkOver r.1 r2.2, wkOver r2.1 r2.2 with
    | some w1, some w2 => .ok (⟨zipD w1.items w2.items, fun m => w1.ok m && w2.ok m⟩, r2.2)
    | _, _ => .bad
  | .enum a, ρ, m => (semE a ρ m).bind fun r => match wkOver r.1 r.2 with
    | some w => .ok (⟨enumD 0 w.items, w.ok⟩, r.2)
    | none => .bad
end

/-- x op= y -/
def augOf (p : Prim) (a b : D) (m : Mem) : R (D × Mem) := match p, a, b with
  | .add _, .int i, .int j => .ok (.int (i + j), m)
  | .add _, .str x, .str y => if x.length + y.length ≤ LIM then .ok (.str (x ++ y), m) else .bad
  | .add _, .ref n, e => match m[n]?, lstOf m e with
    | some (.lst xs), some ys => if xs.length + ys.length ≤ LIM then .ok (.ref n, m.set n (.lst (xs ++ ys))) else .bad
    | _, _ => .bad
  | .sub, .int i, .int j => .ok (.int (i - j), m)
  | .fdiv, .int i, .int j => if 0 < j ∧ Sm j = true then .ok (.int (i / j), m) else .bad
  | .mod, .int i, .int j => if 0 < j then .ok (.int (i % j), m) else .bad
  | _, _, _ => .bad
/-- o[i] = d -/
def setIxOf (o i d : D) (m : Mem) : Option Mem := match o, i with
  | .ref n, .int k => match m[n]? with
    | some (.lst xs) => (ixN xs.length k).map fun j => m.set n (.lst (xs.set j d))
    | _ => none
  | _, _ => none
/-- o.f = d -/
def setAttrOf (o : D) (f : Str) (d : D) (m : Mem) : Option Mem := match o with
  | .ref n => match m[n]? with
    | some (.obj c fs) => ((P.cls[c]?).bind fun cl => cl.fields.findIdx? (fun x => decide (x = f))).map fun i => m.set n (.obj c (putO i d fs))
    | _ => none
  | _ => none
mutual
def storeG : GT → D → Env → Mem → R (Env × Mem)
  | .name i, d, ρ, m => .ok (ρ.set i (some d), m)
  | .ix o i, d, ρ, m => (nox (semE P call o ρ m)).bind fun r => (nox (semE P call i ρ r.2)).bind fun r2 => match setIxOf r.1 r2.1 d r2.2 with
    | some m' => .ok (ρ, m')
    | none => .bad
  | .attr o f, d, ρ, m => (nox (semE P call o ρ m)).bind fun r => match setAttrOf P r.1 f d r.2 with
    | some m' => .ok (ρ, m')
    | none => .bad
  | .tup ts, d, ρ, m => match d with
    | .tup ds => storeGs ts ds ρ m
    | _ => .bad
def storeGs : List GT → List D → Env → Mem → R (Env × Mem)
  | [], [], ρ, m => .ok (ρ, m)
  | t :: ts, d :: ds, ρ, m => (storeG t d ρ m).bind fun r => storeGs ts ds r.1 r.2
  | _, _, _, _ => .bad
end
mutual
def semS : CS → Env → Mem → RS
  | .expr e, ρ, m => (semE P call e ρ m).lift ρ fun _ m' => .ok .nx ρ m'
  | .assign t e, ρ, m => (semE P call e ρ m).lift ρ fun d m' => match assignT t d ρ with
    | some ρ' => .ok .nx ρ' m'
    | none => .bad
  | .par is es, ρ, m => (semEs P call es ρ m).lift ρ fun ds m' => match setAll is ds ρ with
    | some ρ' => .ok .nx ρ' m'
    | none => .bad
  | .aug i p e, ρ, m => match ρ[i]? with
    | some (some d) => ((semE P call e ρ m).bind fun r => augOf p d r.1 r.2).lift ρ fun d' m' => .ok .nx (ρ.set i (some d')) m'
    | _ => .bad
  | .setIx o i e, ρ, m => ((semE P call e ρ m).bind fun r => (semE P call o ρ r.2).bind fun r2 => (semE P call i ρ r2.2).bind fun r3 => match setIxOf r2.1 r3.1 r.1 r3.2 with
    | some m' => .ok ((), m')
    | none => .bad).lift ρ fun _ m' => .ok .nx ρ m'
  | .setAttr o f e, ρ, m => ((semE P call e ρ m).bind fun r => (semE P call o ρ r.2).bind fun r2 => match setAttrOf P r2.1 f r.1 r2.2 with
    | some m' => .ok ((), m')
    | none => .bad).lift ρ fun _ m' => .ok .nx ρ m'
  | .asgG t e, ρ, m => (semE P call e ρ m).lift ρ fun d m' => match storeG P call t d ρ m' with
    | .ok r => .ok .nx r.1 r.2
    | _ => .bad
  | .ret e, ρ, m => (semE P call e ρ m).lift ρ fun d m' => .ok (.rt d) ρ m'
  | .retN, ρ, m => .ok (.rt .non) ρ m
  | .ifs c a b, ρ, m => (tst (semE P call c ρ m)).lift ρ fun k m' => if k then semSs a ρ m' else semSs b ρ m'
  | .whil c b, ρ, m => whileN (fun ρ m => tst (semE P call c ρ m)) (fun ρ m => semSs b ρ m) fuelW ρ m
  | .fors t it b, ρ, m => (semI P call it ρ m).lift ρ fun w m' => forL (fun ρ m => semSs b ρ m) t w.ok w.items ρ m'
  | .pass, ρ, m => .ok .nx ρ m
  | .brk, ρ, m => .ok .bk ρ m
  | .cont, ρ, m => .ok .ct ρ m
  | .bad, _, _ => .bad
  | .raise c es, ρ, m => (semEs P call es ρ m).lift ρ fun ds m' => .exc c ds ρ m'
def semSs : CSs → Env → Mem → RS
  | .nil, ρ, m => .ok .nx ρ m
  | .cons s ss, ρ, m => (semS s ρ m).andThen fun ρ' m' => semSs ss ρ' m'
end
def startE (n : Nat) (args : List D) : Env := args.map some ++ List.replicate (n - args.length) none
end

/-- the memory behind an exception -/
def cutX (m0 : Mem) (fs : List D) (m : Mem) : Mem := if oldOk m0.length m0 m && D.lows m0.length fs then m.take m0.length else m
def retOf (m0 : Mem) : RS → R (D × Mem)
  | .ok .nx _ m' => .ok (cut m0 .non m')
  | .ok (.rt d) _ m' => .ok (cut m0 d m')
  | .exc c fs _ m' => .exc c fs (cutX m0 fs m')
  | _ => .bad
/-- the call of a def, at most k deep -/
def callN (P : Prg) : Nat → Nat → List D → Mem → R (D × Mem)
  | 0, _, _, _ => .bad
  | k + 1, f, args, m => match P.funs[f]? with
    | some fn => if args.length = fn.nargs then retOf m (semSs P (callN P k) fn.body (startE fn.nslots args) m) else .bad
    | none => .bad
end Rf

/-! R2: how abstract values, cells, memory lie in the abstract heap. -/
namespace Rf
open PySem PySem.Spec PyProof.Rows L2

/-- where classes and defs stand -/
structure Ad where
  K : PySem.W.Frag
  ca : Nat → Addr
  fa : Nat → Addr
  fx : Nat → Str

/-- the cells of the memory, and objects that no value is -/
structure Nu where
  c : List Addr
  h : List Addr
instance : Membership Addr Nu := ⟨fun ν a => a ∈ ν.c ∨ a ∈ ν.h⟩
def Nu.add (ν : Nu) (p : Addr) : Nu := ⟨ν.c ++ [p], ν.h⟩
theorem Nu.mem_iff {ν : Nu} {a : Addr} : a ∈ ν ↔ a ∈ ν.c ∨ a ∈ ν.h := Iff.rfl
theorem Nu.notc {ν : Nu} {a : Addr} (n : a ∉ ν) : a ∉ ν.c := fun z => n (.inl z)
theorem Nu.noth {ν : Nu} {a : Addr} (n : a ∉ ν) : a ∉ ν.h := fun z => n (.inr z)

def ScrAt (K : PySem.W.Frag) (ν : Nu) (H : Hp) (a : Addr) (ns : List Int) : Prop :=
  (a ∉ ν ∧ Rd H a (.lst (ns.map V.int))) ∨ (∀ H', SqL K H' a (ns.map V.int))

/-- the dict of an instance with slots: nobody writes it -/
def DxAt (H : Hp) (a dx : Addr) : Prop := H dx = some (.own a) ∨ H dx = some (.xd [])
mutual
def RD (A : Ad) (ν : Nu) (H : Hp) : D → V → Prop
  | .non, v => v = .non
  | .bl b, v => v = .bl b
  | .int i, v => v = .int i
  | .str s, v => v = .str s
  | .tup ds, v => ∃ a xs, v = .ref a ∧ a ∉ ν ∧ H a = some (.tup xs) ∧ RDs A ν H ds xs
  | .lst ds, v => ∃ a xs, v = .ref a ∧ a ∉ ν ∧ H a = some (.lst xs) ∧ RDs A ν H ds xs
  | .scr ns, v => ∃ a, v = .ref a ∧ ScrAt A.K ν H a ns
  | .ins c ds, v => ∃ a dx vs, v = .ref a ∧ a ∉ ν ∧ SlX.Slt H a (A.ca c) dx vs ∧ (dx ∉ ν ∧ DxAt H a dx) ∧ RDo A ν H ds vs
  | .ref n, v => ∃ a, v = .ref a ∧ ν.c[n]? = some a
  | .fn f, v => v = .ref (A.fa f)
def RDs (A : Ad) (ν : Nu) (H : Hp) : List D → List V → Prop
  | [], xs => xs = []
  | d :: ds, xs => ∃ x r, xs = x :: r ∧ RD A ν H d x ∧ RDs A ν H ds r
def RDo (A : Ad) (ν : Nu) (H : Hp) : List D → List (Option V) → Prop
  | [], xs => xs = []
  | d :: ds, xs => ∃ x r, xs = some x :: r ∧ RD A ν H d x ∧ RDo A ν H ds r
end

/-- what is left as it is by all that runs: not a code's table, not an instance's own dict -/
def Kp : HO → Prop
  | .tbl _ => False
  | .own _ => False
  | _ => True
/-- what values lean on -/
structure Ex0 (ν : Nu) (H : Hp) (ν' : Nu) (H' : Hp) : Prop where
  get : ∀ {n : Nat} {a : Addr}, ν.c[n]? = some a → ν'.c[n]? = some a
  out : ∀ {a : Addr} {o : HO}, H a = some o → a ∉ ν → a ∉ ν'
  keep : ∀ a o, H a = some o → a ∉ ν → Kp o → H' a = some o
  own : ∀ a x, H a = some (.own x) → a ∉ ν → H' a = some (.own x) ∨ H' a = some (.xd [])
structure Ext (ν : Nu) (H : Hp) (ν' : Nu) (H' : Hp) : Prop where
  pre : ∃ t, ν'.c = ν.c ++ t ∧ ∀ a ∈ t, H a = none
  hid : ν'.h = ν.h
  keep : ∀ a o, H a = some o → a ∉ ν.c → Kp o → H' a = some o
  own : ∀ a x, H a = some (.own x) → a ∉ ν.c → H' a = some (.own x) ∨ H' a = some (.xd [])
  more : ∀ a, H' a = none → H a = none

theorem Ext.refl (ν : Nu) (H : Hp) : Ext ν H ν H := ⟨⟨[], by simp, by simp⟩, rfl, fun _ _ h _ _ => h, fun _ _ h _ => .inl h, fun _ h => h⟩
section
variable {ν ν' ν1 ν2 : Nu} {H H' H1 H2 : Hp} {A : Ad}
theorem Ext.outc (e : Ext ν H ν' H') {a : Addr} {o : HO} (h : H a = some o) (n : a ∉ ν.c) : a ∉ ν'.c := by
  obtain ⟨t, e1, ht⟩ := e.pre
  intro m
  rw [e1] at m
  rcases List.mem_append.mp m with m | m
  · exact n m
  · rw [ht a m] at h; cases h
theorem Ext.out (e : Ext ν H ν' H') {a : Addr} {o : HO} (h : H a = some o) (n : a ∉ ν) : a ∉ ν' := by
  rintro (m | m)
  · exact e.outc h (Nu.notc n) m
  · rw [e.hid] at m; exact n (.inr m)
theorem Ext.trans (a : Ext ν H ν1 H1) (b : Ext ν1 H1 ν2 H2) : Ext ν H ν2 H2 := by
  refine ⟨?_, b.hid.trans a.hid, fun c o h n nt => b.keep c o (a.keep c o h n nt) (a.outc h n) nt, fun c x h n => (a.own c x h n).elim (fun z => b.own c x z (a.outc h n)) fun z => .inr (b.keep c _ z (a.outc h n) trivial), fun c h => a.more c (b.more c h)⟩
  obtain ⟨t, e1, ht⟩ := a.pre
  obtain ⟨t', e2, ht'⟩ := b.pre
  refine ⟨t ++ t', by rw [e2, e1]; simp, fun c hc => ?_⟩
  rcases List.mem_append.mp hc with m | m
  · exact ht c m
  · exact a.more c (ht' c m)
theorem Ext.get (e : Ext ν H ν' H') {n : Nat} {a : Addr} (h : ν.c[n]? = some a) : ν'.c[n]? = some a := by
  obtain ⟨t, e1, _⟩ := e.pre
  rw [e1, List.getElem?_append_left (List.getElem?_eq_some_iff.mp h).1]
  exact h
theorem Ext.ex0 (e : Ext ν H ν' H') : Ex0 ν H ν' H' := ⟨e.get, e.out, fun a o h n nt => e.keep a o h (Nu.notc n) nt, fun a x h n => e.own a x h (Nu.notc n)⟩
theorem Ext.same {o : HO} {p : Addr} (h : H p = none) : Ext ν H ν (upd H p o) := by
  refine ⟨⟨[], by simp, by simp⟩, rfl, fun a o' e _ _ => ?_, fun a x e _ => .inl ?_, fun a e => ?_⟩
  · rw [upd_ne (ne_of_none e h)]; exact e
  · rw [upd_ne (ne_of_none e h)]; exact e
  · by_cases z : a = p
    · rw [z, upd_same] at e; cases e
    · rw [upd_ne z] at e; exact e
theorem Ext.alloc {o : HO} {p : Addr} (h : H p = none) : Ext ν H (ν.add p) (upd H p o) := by
  refine ⟨⟨[p], rfl, by simpa using h⟩, rfl, (Ext.same (ν := ν) h).keep, (Ext.same (ν := ν) h).own, (Ext.same (ν := ν) h).more⟩
theorem Ext.set {o : HO} {p : Addr} (h : p ∈ ν.c) : Ext ν H ν (upd H p o) := by
  refine ⟨⟨[], by simp, by simp⟩, rfl, fun a o' e n _ => ?_, fun a x e n => .inl ?_, fun a e => ?_⟩
  · rw [upd_ne (fun z => n (by rw [z]; exact h))]; exact e
  · rw [upd_ne (fun z => n (by rw [z]; exact h))]; exact e
  · by_cases z : a = p
    · rw [z, upd_same] at e; cases e
    · rw [upd_ne z] at e; exact e
/-- an object that no value is, is written -/
theorem Ex0.set {o : HO} {p : Addr} (h : p ∈ ν) : Ex0 ν H ν (upd H p o) := ⟨fun h => h, fun _ n => n, fun a o' e n _ => by rw [upd_ne (fun z => n (by rw [z]; exact h))]; exact e, fun a x e n => .inl (by rw [upd_ne (fun z => n (by rw [z]; exact h))]; exact e)⟩
theorem Ex0.sl (e : Ex0 ν H ν' H') {a C dx : Addr} {vs : List (Option V)} (h : SlX.Slt H a C dx vs) (n : a ∉ ν) (nd : dx ∉ ν) : SlX.Slt H' a C dx vs := by
  rcases h with ⟨h1, h2⟩ | ⟨h1, h2⟩
  · exact .inl ⟨e.keep _ _ h1 n trivial, h2⟩
  · exact .inr ⟨e.keep _ _ h1 n trivial, e.keep _ _ h2 nd trivial⟩
theorem slt_some {a C dx : Addr} {vs : List (Option V)} (h : SlX.Slt H a C dx vs) : ∃ o, H a = some o := by
  rcases h with ⟨h, _⟩ | ⟨h, _⟩ <;> exact ⟨_, h⟩
theorem DxAt.some {a dx : Addr} (h : DxAt H a dx) : ∃ o, H dx = some o := by
  rcases h with h | h <;> exact ⟨_, h⟩
theorem DxAt.mono0 (e : Ex0 ν H ν' H') {a dx : Addr} (h : DxAt H a dx) (nd : dx ∉ ν) : DxAt H' a dx := by
  rcases h with h | h
  · exact e.own _ _ h nd
  · exact .inr (e.keep _ _ h nd trivial)
theorem ScrAt.mono0 (e : Ex0 ν H ν' H') {K : PySem.W.Frag} {a : Addr} {ns : List Int} (h : ScrAt K ν H a ns) : ScrAt K ν' H' a ns := by
  rcases h with ⟨n, h | ⟨o, h⟩⟩ | h
  · exact .inl ⟨e.out h n, .inl (e.keep _ _ h n trivial)⟩
  · exact .inl ⟨e.out h n, .inr ⟨o, e.keep _ _ h n trivial⟩⟩
  · exact .inr h
theorem ScrAt.seq {K : PySem.W.Frag} {a : Addr} {ns : List Int} (h : ScrAt K ν H a ns) : SqL K H a (ns.map V.int) := by
  rcases h with ⟨_, h⟩ | h
  · exact .inl h
  · exact h H
mutual
theorem RD.mono0 (e : Ex0 ν H ν' H') : ∀ (d : D) (v : V), RD A ν H d v → RD A ν' H' d v
  | .non, _, h => by simpa only [RD] using h
  | .bl _, _, h => by simpa only [RD] using h
  | .int _, _, h => by simpa only [RD] using h
  | .str _, _, h => by simpa only [RD] using h
  | .tup ds, v, h => by
    simp only [RD] at h ⊢
    obtain ⟨a, xs, h1, h2, h3, h4⟩ := h
    exact ⟨a, xs, h1, e.out h3 h2, e.keep _ _ h3 h2 trivial, RDs.mono0 e ds xs h4⟩
  | .lst ds, v, h => by
    simp only [RD] at h ⊢
    obtain ⟨a, xs, h1, h2, h3, h4⟩ := h
    exact ⟨a, xs, h1, e.out h3 h2, e.keep _ _ h3 h2 trivial, RDs.mono0 e ds xs h4⟩
  | .scr ns, v, h => by
    simp only [RD] at h ⊢
    obtain ⟨a, h1, h2⟩ := h
    exact ⟨a, h1, h2.mono0 e⟩
  | .ins c ds, v, h => by
    simp only [RD] at h ⊢
    obtain ⟨a, dx, vs, h1, h2, h3, h4, h5⟩ := h
    obtain ⟨o, ho⟩ := slt_some h3
    obtain ⟨u, hu⟩ := h4.2.some
    exact ⟨a, dx, vs, h1, e.out ho h2, e.sl h3 h2 h4.1, ⟨e.out hu h4.1, h4.2.mono0 e h4.1⟩, RDo.mono0 e ds vs h5⟩
  | .ref n, v, h => by
    simp only [RD] at h ⊢
    obtain ⟨a, h1, h2⟩ := h
    exact ⟨a, h1, e.get h2⟩
  | .fn _, _, h => by simpa only [RD] using h
theorem RDs.mono0 (e : Ex0 ν H ν' H') : ∀ (ds : List D) (vs : List V), RDs A ν H ds vs → RDs A ν' H' ds vs
  | [], _, h => by simpa only [RDs] using h
  | d :: ds, vs, h => by
    simp only [RDs] at h ⊢
    obtain ⟨x, r, h1, h2, h3⟩ := h
    exact ⟨x, r, h1, RD.mono0 e d x h2, RDs.mono0 e ds r h3⟩
theorem RDo.mono0 (e : Ex0 ν H ν' H') : ∀ (ds : List D) (vs : List (Option V)), RDo A ν H ds vs → RDo A ν' H' ds vs
  | [], _, h => by simpa only [RDo] using h
  | d :: ds, vs, h => by
    simp only [RDo] at h ⊢
    obtain ⟨x, r, h1, h2, h3⟩ := h
    exact ⟨x, r, h1, RD.mono0 e d x h2, RDo.mono0 e ds r h3⟩
end
/-- slots that may be empty -/
def ROo (A : Ad) (ν : Nu) (H : Hp) : List (Option D) → List (Option V) → Prop
  | [], xs => xs = []
  | some d :: ds, xs => ∃ x r, xs = some x :: r ∧ RD A ν H d x ∧ ROo A ν H ds r
  | none :: ds, xs => ∃ x r, xs = x :: r ∧ ROo A ν H ds r
theorem ROo.mono0 (e : Ex0 ν H ν' H') : ∀ (ds : List (Option D)) (vs : List (Option V)), ROo A ν H ds vs → ROo A ν' H' ds vs
  | [], _, h => h
  | some d :: ds, vs, h => by
    obtain ⟨x, r, h1, h2, h3⟩ := h
    exact ⟨x, r, h1, RD.mono0 e d x h2, ROo.mono0 e ds r h3⟩
  | none :: ds, vs, h => by
    obtain ⟨x, r, h1, h3⟩ := h
    exact ⟨x, r, h1, ROo.mono0 e ds r h3⟩
def RKs {κ : Type} (A : Ad) (ν : Nu) (H : Hp) : List (κ × D) → List (κ × V) → Prop
  | [], xs => xs = []
  | p :: ps, xs => ∃ v r, xs = (p.1, v) :: r ∧ RD A ν H p.2 v ∧ RKs A ν H ps r
theorem RKs.mono0 {κ : Type} (e : Ex0 ν H ν' H') : ∀ (ds : List (κ × D)) (vs : List (κ × V)), RKs A ν H ds vs → RKs A ν' H' ds vs
  | [], _, h => h
  | d :: ds, vs, h => by
    obtain ⟨x, r, h1, h2, h3⟩ := h
    exact ⟨x, r, h1, RD.mono0 e _ x h2, RKs.mono0 e ds r h3⟩
/-- a cell at an address -/
def RC (A : Ad) (ν : Nu) (H : Hp) : Cell → Addr → Prop
  | .lst ds, a => ∃ xs, H a = some (.lst xs) ∧ RDs A ν H ds xs
  | .obj c fs, a => ∃ dx vs, SlX.Slt H a (A.ca c) dx vs ∧ (dx ∉ ν ∧ DxAt H a dx) ∧ ROo A ν H fs vs
  | .dK kvs, a => ∃ xs, H a = some (.dK xs) ∧ RKs A ν H kvs xs
  | .dT kvs, a => ∃ xs, H a = some (.dT xs) ∧ RKs A ν H kvs xs
theorem RC.some {c : Cell} {a : Addr} (h : RC A ν H c a) : ∃ o, H a = some o := by
  cases c with
  | lst ds => obtain ⟨_, e, _⟩ := h; exact ⟨_, e⟩
  | obj c fs => obtain ⟨_, _, e, _⟩ := h; exact slt_some e
  | dK ds => obtain ⟨_, e, _⟩ := h; exact ⟨_, e⟩
  | dT ds => obtain ⟨_, e, _⟩ := h; exact ⟨_, e⟩
/-- the memory -/
structure RM (A : Ad) (ν : Nu) (H : Hp) (m : Mem) : Prop where
  len : ν.c.length = m.length
  nd : ν.c.Nodup
  at_ : ∀ (i : Nat) (c : Cell) (a : Addr), m[i]? = some c → ν.c[i]? = some a → RC A ν H c a
  hid : ∀ a ∈ ν.h, ∃ o, H a = some o
theorem RM.mem {m : Mem} (r : RM A ν H m) {a : Addr} (h : a ∈ ν) : ∃ o, H a = some o := by
  rcases h with h | h
  · obtain ⟨i, hi, rfl⟩ := List.mem_iff_getElem.mp h
    have h2 : i < m.length := by rw [← r.len]; exact hi
    exact (r.at_ i m[i] ν.c[i] (List.getElem?_eq_getElem h2) (List.getElem?_eq_getElem hi)).some
  · exact r.hid a h
theorem RM.get {m : Mem} (r : RM A ν H m) {n : Nat} {c : Cell} (h : m[n]? = some c) : ∃ a, ν.c[n]? = some a ∧ RC A ν H c a := by
  have hn : n < ν.c.length := by rw [r.len]; exact (List.getElem?_eq_some_iff.mp h).1
  exact ⟨ν.c[n], List.getElem?_eq_getElem hn, r.at_ n c _ h (List.getElem?_eq_getElem hn)⟩
theorem upd_some {p a : Addr} {o u : HO} (h : H a = some u) : ∃ o', upd H p o a = some o' := by
  by_cases z : a = p
  · rw [z, upd_same]; exact ⟨_, rfl⟩
  · rw [upd_ne z]; exact ⟨_, h⟩
/-- a cell under a step that leaves its own address -/
theorem RC.keep (e : Ex0 ν H ν' H') {c : Cell} {a : Addr} (h : RC A ν H c a) (k : H' a = H a) : RC A ν' H' c a := by
  cases c with
  | lst ds => obtain ⟨xs, h1, h2⟩ := h; exact ⟨xs, k.trans h1, RDs.mono0 e ds xs h2⟩
  | obj c fs =>
    obtain ⟨dx, vs, h3, hd, h4⟩ := h
    obtain ⟨u, hu⟩ := hd.2.some
    refine ⟨dx, vs, ?_, ⟨e.out hu hd.1, hd.2.mono0 e hd.1⟩, ROo.mono0 e fs vs h4⟩
    rcases h3 with ⟨h1, h2⟩ | ⟨h1, h2⟩
    · exact .inl ⟨k.trans h1, h2⟩
    · exact .inr ⟨k.trans h1, e.keep _ _ h2 hd.1 trivial⟩
  | dK ds => obtain ⟨xs, h1, h2⟩ := h; exact ⟨xs, k.trans h1, RKs.mono0 e ds xs h2⟩
  | dT ds => obtain ⟨xs, h1, h2⟩ := h; exact ⟨xs, k.trans h1, RKs.mono0 e ds xs h2⟩
/-- a new object that is no cell -/
theorem RM.fresh {m : Mem} (r : RM A ν H m) {p : Addr} {o : HO} (h : H p = none) : RM A ν (upd H p o) m := by
  refine ⟨r.len, r.nd, fun i c a h1 h2 => ?_, fun a h => let ⟨_, z⟩ := r.hid a h; upd_some z⟩
  have hc := r.at_ i c a h1 h2
  obtain ⟨u, hu⟩ := hc.some
  exact hc.keep (Ext.same h).ex0 (upd_ne (ne_of_none hu h))
/-- a new cell -/
theorem RM.alloc {m : Mem} (r : RM A ν H m) {p : Addr} {o : HO} {c : Cell} (h : H p = none) (hc : RC A (ν.add p) (upd H p o) c p) : RM A (ν.add p) (upd H p o) (m ++ [c]) := by
  have np : p ∉ ν.c := fun z => by
    obtain ⟨u, hu⟩ := r.mem (.inl z)
    rw [h] at hu; cases hu
  refine ⟨by simp [Nu.add, r.len], List.nodup_append.mpr ⟨r.nd, by simp, fun a ha b hb => by rw [List.mem_singleton] at hb; rintro rfl; exact np (hb ▸ ha)⟩, fun i c' a h1 h2 => ?_, fun a h => let ⟨_, z⟩ := r.hid a h; upd_some z⟩
  replace h2 : (ν.c ++ [p])[i]? = some a := h2
  by_cases hi : i < m.length
  · rw [List.getElem?_append_left hi] at h1
    rw [List.getElem?_append_left (by rw [r.len]; exact hi)] at h2
    have hc' := r.at_ i c' a h1 h2
    obtain ⟨u, hu⟩ := hc'.some
    exact hc'.keep (Ext.alloc h).ex0 (upd_ne (ne_of_none hu h))
  · have e : i = m.length := by
      have := (List.getElem?_eq_some_iff.mp h1).1
      simp at this
      omega
    subst e
    simp at h1
    rw [← r.len] at h2
    simp at h2
    subst h1 h2
    exact hc
/-- a cell is written -/
theorem RM.set {m : Mem} (r : RM A ν H m) {n : Nat} {p : Addr} {o : HO} {c : Cell} (h : ν.c[n]? = some p) (hc : RC A ν (upd H p o) c p) : RM A ν (upd H p o) (m.set n c) := by
  have hp : p ∈ ν.c := List.mem_of_getElem? h
  refine ⟨by simp [r.len], r.nd, fun i c' a h1 h2 => ?_, fun a h => let ⟨_, z⟩ := r.hid a h; upd_some z⟩
  by_cases hi : i = n
  · subst hi
    have hl : i < m.length := by
      have := (List.getElem?_eq_some_iff.mp h1).1
      simpa using this
    rw [List.getElem?_set_self hl] at h1
    rw [h] at h2
    cases h1; cases h2
    exact hc
  · rw [List.getElem?_set_ne (Ne.symm hi)] at h1
    have hne : a ≠ p := by
      rintro rfl
      have z1 := List.getElem?_eq_some_iff.mp h
      have z2 := List.getElem?_eq_some_iff.mp h2
      obtain ⟨z1, e1⟩ := z1
      obtain ⟨z2, e2⟩ := z2
      exact hi ((List.getElem_inj r.nd).mp (e2.trans e1.symm))
    exact (r.at_ i c' a h1 h2).keep (Ext.set hp).ex0 (upd_ne hne)
theorem RD.mono (e : Ext ν H ν' H') (d : D) (v : V) (h : RD A ν H d v) : RD A ν' H' d v := RD.mono0 e.ex0 d v h
theorem RDs.mono (e : Ext ν H ν' H') (d : List D) (v : List V) (h : RDs A ν H d v) : RDs A ν' H' d v := RDs.mono0 e.ex0 d v h
end

/-! ### lists of values -/
section
variable {ν : Nu} {H : Hp} {A : Ad}
theorem RDs.length : ∀ {ds : List D} {vs : List V}, RDs A ν H ds vs → vs.length = ds.length
  | [], _, h => by simp only [RDs] at h; rw [h]; rfl
  | d :: ds, vs, h => by
    simp only [RDs] at h
    obtain ⟨x, r, rfl, _, h3⟩ := h
    simp [RDs.length h3]
theorem RDs.nil : RDs A ν H [] [] := by simp only [RDs]
theorem RDs.cons {d : D} {v : V} {ds : List D} {vs : List V} (h : RD A ν H d v) (r : RDs A ν H ds vs) : RDs A ν H (d :: ds) (v :: vs) := by
  simp only [RDs]
  exact ⟨v, vs, rfl, h, r⟩
theorem RDs.inv {d : D} {ds : List D} {vs : List V} (h : RDs A ν H (d :: ds) vs) : ∃ v r, vs = v :: r ∧ RD A ν H d v ∧ RDs A ν H ds r := by
  simpa only [RDs] using h
theorem RDs.inv0 {vs : List V} (h : RDs A ν H [] vs) : vs = [] := by simpa only [RDs] using h
theorem RDs.get : ∀ {ds : List D} {vs : List V} {i : Nat} {d : D}, RDs A ν H ds vs → ds[i]? = some d → ∃ v, vs[i]? = some v ∧ RD A ν H d v
  | [], _, _, _, _, e => by simp at e
  | d :: ds, vs, 0, _, h, e => by
    obtain ⟨x, r, rfl, h2, _⟩ := h.inv
    simp at e; subst e
    exact ⟨x, rfl, h2⟩
  | d :: ds, vs, i + 1, _, h, e => by
    obtain ⟨x, r, rfl, _, h3⟩ := h.inv
    exact RDs.get (i := i) h3 (by simpa using e)
theorem RDs.append : ∀ {ds es : List D} {vs ws : List V}, RDs A ν H ds vs → RDs A ν H es ws → RDs A ν H (ds ++ es) (vs ++ ws)
  | [], _, _, _, h, k => by rw [h.inv0]; exact k
  | d :: ds, es, vs, ws, h, k => by
    obtain ⟨x, r, rfl, h2, h3⟩ := h.inv
    exact .cons h2 (RDs.append h3 k)
theorem RDs.take : ∀ {ds : List D} {vs : List V} (n : Nat), RDs A ν H ds vs → RDs A ν H (ds.take n) (vs.take n)
  | _, _, 0, _ => by simpa using RDs.nil
  | [], _, n + 1, h => by rw [h.inv0]; simpa using RDs.nil
  | d :: ds, vs, n + 1, h => by
    obtain ⟨x, r, rfl, h2, h3⟩ := h.inv
    exact .cons h2 (RDs.take n h3)
theorem RDs.drop : ∀ {ds : List D} {vs : List V} (n : Nat), RDs A ν H ds vs → RDs A ν H (ds.drop n) (vs.drop n)
  | _, _, 0, h => by simpa using h
  | [], _, n + 1, h => by rw [h.inv0]; simpa using RDs.nil
  | d :: ds, vs, n + 1, h => by
    obtain ⟨x, r, rfl, h2, h3⟩ := h.inv
    exact RDs.drop n h3
theorem RDs.reverse : ∀ {ds : List D} {vs : List V}, RDs A ν H ds vs → RDs A ν H ds.reverse vs.reverse
  | [], _, h => by rw [h.inv0]; simpa using RDs.nil
  | d :: ds, vs, h => by
    obtain ⟨x, r, rfl, h2, h3⟩ := h.inv
    rw [List.reverse_cons, List.reverse_cons]
    exact (RDs.reverse h3).append (.cons h2 .nil)
theorem RDs.set : ∀ {ds : List D} {vs : List V} {d : D} {v : V} (i : Nat), RD A ν H d v → RDs A ν H ds vs → RDs A ν H (ds.set i d) (vs.set i v)
  | [], _, _, _, _, _, h => by rw [h.inv0]; simpa using RDs.nil
  | x :: ds, vs, d, v, 0, hd, h => by
    obtain ⟨y, r, rfl, h2, h3⟩ := h.inv
    exact .cons hd h3
  | x :: ds, vs, d, v, i + 1, hd, h => by
    obtain ⟨y, r, rfl, h2, h3⟩ := h.inv
    exact .cons h2 (RDs.set i hd h3)
theorem RDs.rep {ds : List D} {vs : List V} (h : RDs A ν H ds vs) : ∀ k : Nat, RDs A ν H (List.replicate k ds).flatten (List.replicate k vs).flatten
  | 0 => by simpa using RDs.nil
  | k + 1 => by
    rw [List.replicate_succ, List.replicate_succ, List.flatten_cons, List.flatten_cons]
    exact h.append (RDs.rep h k)
theorem RDs.ints : ∀ {ns : List Int} {vs : List V}, RDs A ν H (ns.map D.int) vs → vs = ns.map V.int
  | [], _, h => h.inv0
  | n :: ns, vs, h => by
    obtain ⟨x, r, rfl, h2, h3⟩ := RDs.inv (d := .int n) (ds := ns.map .int) h
    simp only [RD] at h2
    rw [h2, RDs.ints h3]
    rfl
theorem RDs.of_ints : ∀ ns : List Int, RDs A ν H (ns.map D.int) (ns.map V.int)
  | [] => .nil
  | n :: ns => .cons (by simp only [RD]) (RDs.of_ints ns)
theorem intsD_eq : ∀ {ds : List D} {ns : List Int}, intsD ds = some ns → ds = ns.map .int
  | [], ns, h => by simp [intsD] at h; subst h; rfl
  | d :: ds, ns, h => by
    cases d with
    | int i =>
      simp only [intsD, Option.map_eq_some_iff] at h
      obtain ⟨l, h1, rfl⟩ := h
      rw [intsD_eq h1]
      rfl
    | _ => simp [intsD] at h
theorem boolsD_eq : ∀ {ds : List D} {ns : List Bool}, boolsD ds = some ns → ds = ns.map .bl
  | [], ns, h => by simp [boolsD] at h; subst h; rfl
  | d :: ds, ns, h => by
    cases d with
    | bl i =>
      simp only [boolsD, Option.map_eq_some_iff] at h
      obtain ⟨l, h1, rfl⟩ := h
      rw [boolsD_eq h1]
      rfl
    | _ => simp [boolsD] at h
theorem RDs.bls : ∀ {ns : List Bool} {vs : List V}, RDs A ν H (ns.map D.bl) vs → vs = ns.map V.bl
  | [], _, h => h.inv0
  | n :: ns, vs, h => by
    obtain ⟨x, r, rfl, h2, h3⟩ := RDs.inv (d := .bl n) (ds := ns.map .bl) h
    simp only [RD] at h2
    rw [h2, RDs.bls h3]
    rfl
theorem RDo.length : ∀ {ds : List D} {vs : List (Option V)}, RDo A ν H ds vs → vs.length = ds.length
  | [], _, h => by simp only [RDo] at h; rw [h]; rfl
  | d :: ds, vs, h => by
    simp only [RDo] at h
    obtain ⟨x, r, rfl, _, h3⟩ := h
    simp [RDo.length h3]
theorem RDo.get : ∀ {ds : List D} {vs : List (Option V)} {i : Nat} {d : D}, RDo A ν H ds vs → ds[i]? = some d → ∃ v, vs[i]? = some (some v) ∧ RD A ν H d v
  | [], _, _, _, _, e => by simp at e
  | d :: ds, vs, 0, _, h, e => by
    simp only [RDo] at h
    obtain ⟨x, r, rfl, h2, _⟩ := h
    simp at e; subst e
    exact ⟨x, rfl, h2⟩
  | d :: ds, vs, i + 1, _, h, e => by
    simp only [RDo] at h
    obtain ⟨x, r, rfl, _, h3⟩ := h
    exact RDo.get (i := i) h3 (by simpa using e)
theorem ROo.get : ∀ {ds : List (Option D)} {vs : List (Option V)} {i : Nat} {d : D}, ROo A ν H ds vs → ds[i]? = some (some d) → ∃ v, vs[i]? = some (some v) ∧ RD A ν H d v
  | [], _, _, _, _, e => by simp at e
  | some d :: ds, vs, 0, _, h, e => by
    obtain ⟨x, r, rfl, h2, _⟩ := h
    simp at e; subst e
    exact ⟨x, rfl, h2⟩
  | none :: ds, vs, 0, _, h, e => by simp at e
  | some d :: ds, vs, i + 1, _, h, e => by
    obtain ⟨x, r, rfl, _, h3⟩ := h
    exact ROo.get (i := i) h3 (by simpa using e)
  | none :: ds, vs, i + 1, _, h, e => by
    obtain ⟨x, r, rfl, h3⟩ := h
    exact ROo.get (i := i) h3 (by simpa using e)
theorem ROo.length : ∀ {ds : List (Option D)} {vs : List (Option V)}, ROo A ν H ds vs → vs.length = ds.length
  | [], _, h => by rw [show _ = [] from h]; rfl
  | some d :: ds, vs, h => by
    obtain ⟨x, r, rfl, _, h3⟩ := h
    simp [ROo.length h3]
  | none :: ds, vs, h => by
    obtain ⟨x, r, rfl, h3⟩ := h
    simp [ROo.length h3]
theorem ROo.append : ∀ {ds es : List (Option D)} {vs ws : List (Option V)}, ROo A ν H ds vs → ROo A ν H es ws → ROo A ν H (ds ++ es) (vs ++ ws)
  | [], _, _, _, h, k => by rw [show _ = [] from h]; exact k
  | some d :: ds, es, vs, ws, h, k => by
    obtain ⟨x, r, rfl, h2, h3⟩ := h
    exact ⟨x, r ++ ws, rfl, h2, ROo.append h3 k⟩
  | none :: ds, es, vs, ws, h, k => by
    obtain ⟨x, r, rfl, h3⟩ := h
    exact ⟨x, r ++ ws, rfl, ROo.append h3 k⟩
theorem ROo.nones : ∀ k : Nat, ROo A ν H (List.replicate k none) (List.replicate k none)
  | 0 => rfl
  | k + 1 => ⟨none, List.replicate k none, rfl, ROo.nones k⟩
theorem ROo.set : ∀ {ds : List (Option D)} {vs : List (Option V)} {d : D} {v : V} (i : Nat), RD A ν H d v → ROo A ν H ds vs → ROo A ν H (ds.set i (some d)) (vs.set i (some v))
  | [], _, _, _, _, _, h => by rw [show _ = [] from h]; rfl
  | some x :: ds, vs, d, v, 0, hd, h => by
    obtain ⟨y, r, rfl, h2, h3⟩ := h
    exact ⟨v, r, rfl, hd, h3⟩
  | none :: ds, vs, d, v, 0, hd, h => by
    obtain ⟨y, r, rfl, h3⟩ := h
    exact ⟨v, r, rfl, hd, h3⟩
  | some x :: ds, vs, d, v, i + 1, hd, h => by
    obtain ⟨y, r, rfl, h2, h3⟩ := h
    exact ⟨y, _, rfl, h2, ROo.set i hd h3⟩
  | none :: ds, vs, d, v, i + 1, hd, h => by
    obtain ⟨y, r, rfl, h3⟩ := h
    exact ⟨y, _, rfl, ROo.set i hd h3⟩
theorem ROo.put {ds : List (Option D)} {vs : List (Option V)} {d : D} {v : V} (i : Nat) (hd : RD A ν H d v) (h : ROo A ν H ds vs) : ROo A ν H (putO i d ds) (L2.putS i v vs) := by
  unfold putO L2.putS
  rw [h.length]
  exact (h.append (ROo.nones _)).set i hd
theorem ROo.somes : ∀ {ds : List (Option D)} {vs : List (Option V)} {es : List D}, ROo A ν H ds vs → Rf.somes ds = some es → RDo A ν H es vs
  | [], _, es, h, e => by
    simp [Rf.somes] at e; subst e
    rw [show _ = [] from h]
    simp only [RDo]
  | some d :: ds, vs, es, h, e => by
    obtain ⟨x, r, rfl, h2, h3⟩ := h
    simp only [Rf.somes, Option.map_eq_some_iff] at e
    obtain ⟨l, h1, rfl⟩ := e
    simp only [RDo]
    exact ⟨x, r, rfl, h2, ROo.somes h3 h1⟩
  | none :: ds, vs, es, h, e => by simp [Rf.somes] at e
theorem RDo.some : ∀ {ds : List D} {vs : List (Option V)}, RDo A ν H ds vs → ROo A ν H (ds.map some) vs
  | [], _, h => by
    simp only [RDo] at h
    exact h
  | d :: ds, vs, h => by
    simp only [RDo] at h
    obtain ⟨x, r, rfl, h2, h3⟩ := h
    exact ⟨x, r, rfl, h2, RDo.some h3⟩
end

/-! ### the env -/
structure RE (A : Ad) (ν : Nu) (H : Hp) (ρ : Env) (σ : L2.St) : Prop where
  len : ρ.length = σ.length
  at_ : ∀ (i : Nat) (d : D), ρ[i]? = some (some d) → ∃ v, σ[i]? = some (some v) ∧ RD A ν H d v
section
variable {ν ν' : Nu} {H H' : Hp} {A : Ad} {ρ : Env} {σ : L2.St}
theorem RE.mono (e : Ext ν H ν' H') (r : RE A ν H ρ σ) : RE A ν' H' ρ σ := ⟨r.len, fun i d h => let ⟨v, h1, h2⟩ := r.at_ i d h; ⟨v, h1, RD.mono e d v h2⟩⟩
theorem RE.set (r : RE A ν H ρ σ) {d : D} {v : V} (i : Nat) (h : RD A ν H d v) : RE A ν H (ρ.set i (some d)) (σ.set i (some v)) := by
  refine ⟨by simp [r.len], fun j e hj => ?_⟩
  by_cases hi : i = j
  · subst hi
    by_cases hl : i < ρ.length
    · rw [List.getElem?_set_self hl] at hj
      cases hj
      exact ⟨v, List.getElem?_set_self (by rw [← r.len]; exact hl), h⟩
    · rw [List.getElem?_eq_none (by simpa using hl)] at hj
      cases hj
  · rw [List.getElem?_set_ne hi] at hj
    obtain ⟨w, h1, h2⟩ := r.at_ j e hj
    exact ⟨w, by rw [List.getElem?_set_ne hi]; exact h1, h2⟩
theorem RE.unset (r : RE A ν H ρ σ) (i : Nat) : RE A ν H (ρ.set i none) (σ.set i none) := by
  refine ⟨by simp [r.len], fun j e hj => ?_⟩
  by_cases hi : i = j
  · subst hi
    by_cases hl : i < ρ.length
    · rw [List.getElem?_set_self hl] at hj; cases hj
    · rw [List.getElem?_eq_none (by simpa using hl)] at hj; cases hj
  · rw [List.getElem?_set_ne hi] at hj
    obtain ⟨w, h1, h2⟩ := r.at_ j e hj
    exact ⟨w, by rw [List.getElem?_set_ne hi]; exact h1, h2⟩
theorem RE.wipe (r : RE A ν H ρ σ) : ∀ vs : List Nat, RE A ν H (wipeE ρ vs) (L2.wipe σ vs)
  | [] => r
  | v :: vs => (RE.wipe r vs).unset v
theorem RE.start {ds : List D} {vs : List V} (h : RDs A ν H ds vs) (n : Nat) : RE A ν H (startE n ds) (vs.map some ++ List.replicate (n - vs.length) none) := by
  have hl := h.length
  refine ⟨by simp [startE, hl], fun i d hi => ?_⟩
  unfold startE at hi
  by_cases hlt : i < ds.length
  · rw [List.getElem?_append_left (by simpa using hlt), List.getElem?_map] at hi
    cases e : ds[i]? with
    | none => rw [e] at hi; cases hi
    | some d' =>
      rw [e] at hi
      cases hi
      obtain ⟨v, h1, h2⟩ := h.get e
      exact ⟨v, by rw [List.getElem?_append_left (by simp [hl]; exact hlt), List.getElem?_map, h1]; rfl, h2⟩
  · rw [List.getElem?_append_right (by simpa using Nat.not_lt.mp hlt), List.getElem?_replicate] at hi
    split at hi <;> cases hi
end

/-! ### what a computation leaves -/
/-- an exception: of the class c, with these fields -/
def RX (A : Ad) (ν : Nu) (H : Hp) (c : Nat) (fs : List D) (dx : Option Addr) : Prop := match fs with
  | [] => dx = none
  | [d] => ∃ a v, dx = some a ∧ H a = some (.xd [(A.fx c, v)]) ∧ RD A ν H d v
  | _ => False
def Out {α β : Type} (A : Ad) (Rel : Nu → Hp → α → β → Prop) (ν : Nu) (H : Hp) (r : R (α × Mem)) (Q : β → Hp → Prop) (E : XK) : Prop := match r with
  | .ok x => ∀ v ν' H', Ext ν H ν' H' → Rel ν' H' x.1 v → RM A ν' H' x.2 → Q v H'
  | .exc c fs m => ∀ dx ν' H', Ext ν H ν' H' → RX A ν' H' c fs dx → RM A ν' H' m → E (.ref (A.ca c)) dx H'
  | .bad => False
section
variable {α β γ δ : Type} {A : Ad} {ν ν' : Nu} {H H' : Hp} {Rel : Nu → Hp → α → β → Prop} {Rel1 : Nu → Hp → γ → δ → Prop} {Q : β → Hp → Prop} {Q1 : δ → Hp → Prop} {E : XK}
theorem Out.mono (e : Ext ν H ν' H') {r : R (α × Mem)} (o : Out A Rel ν H r Q E) : Out A Rel ν' H' r Q E := by
  cases r with
  | ok x => exact fun v ν2 H2 e2 => o v ν2 H2 (e.trans e2)
  | exc c fs m => exact fun dx ν2 H2 e2 => o dx ν2 H2 (e.trans e2)
  | bad => exact o
/-- of a row of two the first -/
theorem Out.split {r : R (γ × Mem)} {g : γ × Mem → R (α × Mem)} (o : Out A Rel ν H (r.bind g) Q E)
    (h : ∀ d m v ν' H', r = .ok (d, m) → Ext ν H ν' H' → Rel1 ν' H' d v → RM A ν' H' m → Out A Rel ν' H' (g (d, m)) Q E → Q1 v H') : Out A Rel1 ν H r Q1 E := by
  cases r with
  | ok x => exact fun v ν2 H2 e2 rd rm => h x.1 x.2 v ν2 H2 rfl e2 rd rm (Out.mono e2 o)
  | exc c fs m => exact o
  | bad => exact o
theorem Out.imp {r : R (α × Mem)} (o : Out A Rel ν H r Q E) {Q' : β → Hp → Prop} (h : ∀ v H', Q v H' → Q' v H') : Out A Rel ν H r Q' E := by
  cases r with
  | ok x => exact fun v ν2 H2 e2 rd rm => h _ _ (o v ν2 H2 e2 rd rm)
  | exc c fs m => exact o
  | bad => exact o
end
end Rf

/-! R2b: what is handed out: fewer cells. -/
namespace Rf
open PySem PySem.Spec PyProof.Rows L2
/-! ### what is handed out -/
section
variable {A : Ad} {ν ν' : Nu} {H H' : Hp} {m m' : Mem}
mutual
theorem RD_low : ∀ (d : D) (v : V), RD A ν H d v → d.low ν.c.length = true
  | .non, _, _ => rfl
  | .bl _, _, _ => rfl
  | .int _, _, _ => rfl
  | .str _, _, _ => rfl
  | .tup ds, v, h => by
    simp only [RD] at h
    obtain ⟨a, xs, _, _, _, h4⟩ := h
    simp only [D.low]
    exact RDs_low ds xs h4
  | .lst ds, v, h => by
    simp only [RD] at h
    obtain ⟨a, xs, _, _, _, h4⟩ := h
    simp only [D.low]
    exact RDs_low ds xs h4
  | .scr _, _, _ => rfl
  | .ins c ds, v, h => by
    simp only [RD] at h
    obtain ⟨a, dx, vs, _, _, _, _, h5⟩ := h
    simp only [D.low]
    exact RDo_low ds vs h5
  | .ref n, v, h => by
    simp only [RD] at h
    obtain ⟨a, _, h2⟩ := h
    simp only [D.low, decide_eq_true_eq]
    exact (List.getElem?_eq_some_iff.mp h2).1
  | .fn _, _, _ => rfl
theorem RDs_low : ∀ (ds : List D) (vs : List V), RDs A ν H ds vs → D.lows ν.c.length ds = true
  | [], _, _ => rfl
  | d :: ds, vs, h => by
    obtain ⟨x, r, rfl, h2, h3⟩ := h.inv
    simp only [D.lows, RD_low d x h2, RDs_low ds r h3, Bool.and_self]
theorem RDo_low : ∀ (ds : List D) (vs : List (Option V)), RDo A ν H ds vs → D.lows ν.c.length ds = true
  | [], _, _ => rfl
  | d :: ds, vs, h => by
    simp only [RDo] at h
    obtain ⟨x, r, rfl, h2, h3⟩ := h
    simp only [D.lows, RD_low d x h2, RDo_low ds r h3, Bool.and_self]
end
theorem ROo_low : ∀ (ds : List (Option D)) (vs : List (Option V)), ROo A ν H ds vs → (ds.all fun | some d => d.low ν.c.length | none => true) = true
  | [], _, _ => rfl
  | some d :: ds, vs, h => by
    obtain ⟨x, r, rfl, h2, h3⟩ := h
    rw [List.all_cons, ROo_low ds r h3, Bool.and_true]
    exact RD_low d x h2
  | none :: ds, vs, h => by
    obtain ⟨x, r, rfl, h3⟩ := h
    rw [List.all_cons, ROo_low ds r h3]
    rfl
theorem RKs_low {κ : Type} : ∀ (ds : List (κ × D)) (vs : List (κ × V)), RKs A ν H ds vs → (ds.all fun p => p.2.low ν.c.length) = true
  | [], _, _ => rfl
  | d :: ds, vs, h => by
    obtain ⟨x, r, rfl, h2, h3⟩ := h
    rw [List.all_cons, RKs_low ds r h3, Bool.and_true]
    exact RD_low _ x h2
theorem RC_low {c : Cell} {a : Addr} (h : RC A ν H c a) : c.low ν.c.length = true := by
  cases c with
  | lst ds => obtain ⟨xs, _, h2⟩ := h; exact RDs_low ds xs h2
  | obj c fs => obtain ⟨dx, vs, _, _, h4⟩ := h; exact ROo_low fs vs h4
  | dK ds => obtain ⟨xs, _, h2⟩ := h; exact RKs_low ds xs h2
  | dT ds => obtain ⟨xs, _, h2⟩ := h; exact RKs_low ds xs h2

/-- fewer cells: what lies below n stays -/
structure Dn (n : Nat) (ν ν' : Nu) : Prop where
  sub : ∀ {a : Addr}, a ∉ ν → a ∉ ν'
  get : ∀ {i : Nat} {a : Addr}, i < n → ν.c[i]? = some a → ν'.c[i]? = some a
variable {n : Nat}
mutual
theorem RD.down (e : Dn n ν ν') : ∀ (d : D) (v : V), d.low n = true → RD A ν H d v → RD A ν' H d v
  | .non, _, _, h => by simpa only [RD] using h
  | .bl _, _, _, h => by simpa only [RD] using h
  | .int _, _, _, h => by simpa only [RD] using h
  | .str _, _, _, h => by simpa only [RD] using h
  | .tup ds, v, l, h => by
    simp only [RD] at h ⊢
    obtain ⟨a, xs, h1, h2, h3, h4⟩ := h
    exact ⟨a, xs, h1, e.sub h2, h3, RDs.down e ds xs (by simpa only [D.low] using l) h4⟩
  | .lst ds, v, l, h => by
    simp only [RD] at h ⊢
    obtain ⟨a, xs, h1, h2, h3, h4⟩ := h
    exact ⟨a, xs, h1, e.sub h2, h3, RDs.down e ds xs (by simpa only [D.low] using l) h4⟩
  | .scr ns, v, l, h => by
    simp only [RD] at h ⊢
    obtain ⟨a, h1, h2⟩ := h
    exact ⟨a, h1, h2.imp (fun z => ⟨e.sub z.1, z.2⟩) id⟩
  | .ins c ds, v, l, h => by
    simp only [RD] at h ⊢
    obtain ⟨a, dx, vs, h1, h2, h3, h4, h5⟩ := h
    exact ⟨a, dx, vs, h1, e.sub h2, h3, ⟨e.sub h4.1, h4.2⟩, RDo.down e ds vs (by simpa only [D.low] using l) h5⟩
  | .ref i, v, l, h => by
    simp only [RD] at h ⊢
    obtain ⟨a, h1, h2⟩ := h
    exact ⟨a, h1, e.get (by simpa [D.low] using l) h2⟩
  | .fn _, _, _, h => by simpa only [RD] using h
theorem RDs.down (e : Dn n ν ν') : ∀ (ds : List D) (vs : List V), D.lows n ds = true → RDs A ν H ds vs → RDs A ν' H ds vs
  | [], _, _, h => by simpa only [RDs] using h
  | d :: ds, vs, l, h => by
    simp only [D.lows, Bool.and_eq_true] at l
    obtain ⟨x, r, rfl, h2, h3⟩ := h.inv
    exact .cons (RD.down e d x l.1 h2) (RDs.down e ds r l.2 h3)
theorem RDo.down (e : Dn n ν ν') : ∀ (ds : List D) (vs : List (Option V)), D.lows n ds = true → RDo A ν H ds vs → RDo A ν' H ds vs
  | [], _, _, h => by simpa only [RDo] using h
  | d :: ds, vs, l, h => by
    simp only [D.lows, Bool.and_eq_true] at l
    simp only [RDo] at h ⊢
    obtain ⟨x, r, rfl, h2, h3⟩ := h
    exact ⟨x, r, rfl, RD.down e d x l.1 h2, RDo.down e ds r l.2 h3⟩
end
theorem ROo.down (e : Dn n ν ν') : ∀ (ds : List (Option D)) (vs : List (Option V)), (ds.all fun | some d => d.low n | none => true) = true → ROo A ν H ds vs → ROo A ν' H ds vs
  | [], _, _, h => h
  | some d :: ds, vs, l, h => by
    rw [List.all_cons, Bool.and_eq_true] at l
    obtain ⟨x, r, rfl, h2, h3⟩ := h
    exact ⟨x, r, rfl, RD.down e d x l.1 h2, ROo.down e ds r l.2 h3⟩
  | none :: ds, vs, l, h => by
    rw [List.all_cons, Bool.and_eq_true] at l
    obtain ⟨x, r, rfl, h3⟩ := h
    exact ⟨x, r, rfl, ROo.down e ds r l.2 h3⟩
theorem RKs.down {κ : Type} (e : Dn n ν ν') : ∀ (ds : List (κ × D)) (vs : List (κ × V)), (ds.all fun p => p.2.low n) = true → RKs A ν H ds vs → RKs A ν' H ds vs
  | [], _, _, h => h
  | d :: ds, vs, l, h => by
    rw [List.all_cons, Bool.and_eq_true] at l
    obtain ⟨x, r, rfl, h2, h3⟩ := h
    exact ⟨x, r, rfl, RD.down e _ x l.1 h2, RKs.down e ds r l.2 h3⟩
theorem RC.down (e : Dn n ν ν') {c : Cell} {a : Addr} (l : c.low n = true) (h : RC A ν H c a) : RC A ν' H c a := by
  cases c with
  | lst ds => obtain ⟨xs, h1, h2⟩ := h; exact ⟨xs, h1, RDs.down e ds xs l h2⟩
  | obj c fs => obtain ⟨dx, vs, h1, h2, h4⟩ := h; exact ⟨dx, vs, h1, ⟨e.sub h2.1, h2.2⟩, ROo.down e fs vs l h4⟩
  | dK ds => obtain ⟨xs, h1, h2⟩ := h; exact ⟨xs, h1, RKs.down e ds xs l h2⟩
  | dT ds => obtain ⟨xs, h1, h2⟩ := h; exact ⟨xs, h1, RKs.down e ds xs l h2⟩
theorem oldOk_get {n : Nat} : ∀ {m m' : Mem} {i : Nat} {c : Cell}, oldOk n m m' = true → i < m.length → m'[i]? = some c → m[i]? = some c ∨ c.low n = true
  | [], _, _, _, _, h, _ => by simp at h
  | _ :: _, [], _, _, h, _, _ => by simp [oldOk] at h
  | c :: m, c' :: m', 0, x, h, _, e => by
    simp only [oldOk, Bool.and_eq_true, Bool.or_eq_true, decide_eq_true_eq] at h
    simp at e
    subst e
    rcases h.1 with z | z
    · exact .inl (by simp [z])
    · exact .inr z
  | c :: m, c' :: m', i + 1, x, h, hl, e => by
    simp only [oldOk, Bool.and_eq_true] at h
    have := oldOk_get (i := i) h.2 (by simpa using hl) (by simpa using e)
    simpa using this
/-- below: the old cells, as they are now -/
theorem back_mem (rm : RM A ν H m) (e : Ext ν H ν' H') (rm' : RM A ν' H' m') (ho : oldOk m.length m m' = true) : Dn m.length ν' ν ∧ Ext ν H ν H' ∧ RM A ν H' (m'.take m.length) := by
  obtain ⟨t, e1, ht⟩ := e.pre
  have hget : ∀ {i : Nat} {a : Addr}, i < m.length → ν'.c[i]? = some a → ν.c[i]? = some a := fun {i a} hi h => by
    rw [e1, List.getElem?_append_left (by rw [rm.len]; exact hi)] at h
    exact h
  have dn : Dn m.length ν' ν := ⟨fun {a} n z => by
    rcases z with z | z
    · exact n (.inl (by rw [e1]; exact List.mem_append_left _ z))
    · exact n (.inr (by rw [e.hid]; exact z)), hget⟩
  have hlen : m.length ≤ m'.length := by rw [← rm.len, ← rm'.len, e1]; simp
  refine ⟨dn, ⟨⟨[], by simp, by simp⟩, rfl, e.keep, e.own, e.more⟩, ?_, rm.nd, fun i c a h1 h2 => ?_, fun a z => rm'.hid a (by rw [e.hid]; exact z)⟩
  · rw [List.length_take, rm.len]; omega
  · have hi : i < m.length := by rw [← rm.len]; exact (List.getElem?_eq_some_iff.mp h2).1
    rw [List.getElem?_take_of_lt hi] at h1
    have h3 : ν'.c[i]? = some a := e.get h2
    have hc := rm'.at_ i c a h1 h3
    rcases oldOk_get ho hi h1 with z | z
    · have := RC_low (rm.at_ i c a z h2)
      rw [rm.len] at this
      exact RC.down dn this hc
    · exact RC.down dn z hc
end
end Rf

/-! S1: sorted of a tuple of pairs of ints. -/
namespace Rf
open PySem PySem.Spec PyProof.Rows SrtO
section
variable {prog : Program} {w : World} {A : Around} {E : Value → Shared → Prop} {s : Shared}
theorem collect_tup {l : Addr} {vs : List Value} {Q : List Value → Shared → Prop} (hl : s.heap.IsTuple l vs.toArray)
    (h : Q vs { s with heap := (s.heap.push (seqObj "list" #[] 0)).update s.heap.objs.size (Obj.mapSeq (· ++ vs.toArray)) }) (hsz : vs.length ≤ sizeLine) :
    wpAny (model prog w) A (collect (.ref l)) Q E s := by
  obtain ⟨o, ho, hc, n, hd⟩ := id hl
  unfold collect
  refine wpAny_bind (wpAny_runValue (codeAny_builtin entry_proto_collect' ?_))
  show wpAny _ _ (do again (.builtin "list.__iadd__" ⟨[← newList [], .ref l], []⟩)) _ _ s
  refine wpAny_bind (wpAny_newList (wpAny_pure ⟨Code.quiet_builtin _ (by decide +kernel), codeAny_builtin entry_list_iadd' ?_⟩))
  show wpAny _ _ (Builtin.List.listExtendWith (.ref s.heap.objs.size) (.ref l) (.ref s.heap.objs.size)) _ _ { s with heap := s.heap.push (seqObj "list" #[] 0) }
  unfold Builtin.List.listExtendWith
  have ho' : (s.heap.push (seqObj "list" #[] 0)).get? l = some o := Heap.get?_push_of_some _ ho
  refine wpAny_bind (wpAny_typeOf (T := "tuple") ⟨o, ho', hc⟩ ?_)
  have ht : (Value.type "tuple" == Value.type "tuple") = true := by rfl
  rw [if_pos (by rw [ht]; simp)]
  refine wpAny_bind (listItems_at ho' hd ?_)
  refine wpAny_bind (listItems_at (xs := #[]) (n := 0) (Heap.get?_push_size _ rfl) rfl ?_)
  rw [if_neg (by simp)]
  refine wpAny_bind (listUpdate_at (xs := #[]) (n := 0) (Heap.get?_push_size _ rfl) rfl ?_ (Nat.zero_le _) (by show (#[] ++ vs.toArray).size ≤ sizeLine + 1; simp only [Array.size_append, List.size_toArray, List.length_nil]; omega))
  refine wpAny_pure ?_
  show wpAny (model prog w) A (do
      let o ← load s.heap.objs.size
      match o.data with
      | .seq xs _ => pure xs.toList
      | _ => unsupported "internal:collect") Q E { s with heap := (s.heap.push (seqObj "list" #[] 0)).update s.heap.objs.size (Obj.mapSeq (· ++ vs.toArray)) }
  refine wpAny_bind (wpAny_load (get?_update_seq (Heap.get?_push_size _ rfl) _) ?_)
  show wpAny _ _ (pure ((#[] : Array Value) ++ vs.toArray).toList) Q E _
  rw [show ((#[] : Array Value) ++ vs.toArray).toList = vs by simp]
  exact wpAny_pure h
theorem sorted_ordT {l : Addr} {vs : List Value} {ltv : Value → Value → Bool} {Q : Value → Shared → Prop} (O : Swo ltv) (hl : s.heap.IsTuple l vs.toArray) (hz : vs.length ≤ sizeLine)
    (hS : 2 ≤ vs.length → ∀ (h₁ : Heap) (a : Addr), h₁.get? a = some (seqObj "list" vs.toArray 0) → (∀ b o, s.heap.get? b = some o → b ≠ a ∧ h₁.get? b = some o) → SortableO prog w A.in1.in1 { s with heap := h₁ } a vs ltv)
    (h : ∀ (h' : Heap) (d : Addr) (out : List Value), Srtd ltv out → Stb ltv out vs → (∀ b o, s.heap.get? b = some o → h'.get? b = some o) → s.heap.objs.size ≤ d → (∃ n, h'.get? d = some (seqObj "list" out.toArray n)) → Q (.ref d) { s with heap := h' }) :
    wpAny (model prog w) A (call (.builtin "sorted") [.ref l]) Q E s := by
  refine Calls.call_function_entry kind_sorted plain_sorted entry_sorted (args_sorted1 _) ?_
  unfold Builtin.«sorted»
  refine wpAny_bind (m := checkCount "sorted" 1 1 _) (wpAny_pure ?_)
  refine wpAny_bind (collect_tup hl ?_ hz)
  refine wpAny_bind (wpAny_newList ?_ hz)
  have hsz : ((s.heap.push (seqObj "list" #[] 0)).update s.heap.objs.size (Obj.mapSeq (· ++ vs.toArray))).objs.size = s.heap.objs.size + 1 := by
    rw [Heap.size_update, size_push']
  have hoL : (((s.heap.push (seqObj "list" #[] 0)).update s.heap.objs.size (Obj.mapSeq (· ++ vs.toArray))).push (seqObj "list" vs.toArray 0)).get? (s.heap.objs.size + 1) = some (seqObj "list" vs.toArray 0) := by
    rw [← hsz]; exact Heap.get?_push_size _ rfl
  have keep : ∀ b o, s.heap.get? b = some o → b ≠ s.heap.objs.size + 1 ∧ (((s.heap.push (seqObj "list" #[] 0)).update s.heap.objs.size (Obj.mapSeq (· ++ vs.toArray))).push (seqObj "list" vs.toArray 0)).get? b = some o := fun b o q => by
    have hlt : b < s.heap.objs.size := Heap.lt_size q
    refine ⟨Nat.ne_of_lt (Nat.lt_succ_of_lt hlt), Heap.get?_push_of_some _ ?_⟩
    rw [Heap.get?_update_ne _ _ _ _ (Nat.ne_of_lt hlt)]
    exact Heap.get?_push_of_some _ q
  show wpAny _ _ _ _ _ { s with heap := ((s.heap.push (seqObj "list" #[] 0)).update s.heap.objs.size (Obj.mapSeq (· ++ vs.toArray))).push (seqObj "list" vs.toArray 0) }
  rw [hsz]
  refine wpAny_bind (wpAny_holding (wpAny_call_entry slot_list_sort ⟨_, hoL, rfl⟩ entry_list_sort (list_sort_ord O hoL hz (fun h2 => hS h2 _ _ hoL keep) fun out hs hb => ⟨_, rfl, ?_⟩) (args_list_sort _)))
  exact wpAny_pure ⟨_, rfl, h _ _ out hs hb (fun b o e => sortedAll_old e) (Nat.le_succ _) (sortedAll_at s.heap vs out.toArray)⟩
theorem sorted_pairsT {l : Addr} {vs : List Value} {k : Value → Int × Int} {Q : Value → Shared → Prop} (hl : s.heap.IsTuple l vs.toArray) (hz : vs.length ≤ sizeLine) (hp : ∀ v ∈ vs, Srt.IsPair s.heap v (k v).1 (k v).2)
    (h : ∀ (h' : Heap) (d : Addr) (out : List Value), Srtd (fun v u => lexB (k v) (k u)) out → Stb (fun v u => lexB (k v) (k u)) out vs → (∀ b o, s.heap.get? b = some o → h'.get? b = some o) → s.heap.objs.size ≤ d → (∃ n, h'.get? d = some (seqObj "list" out.toArray n)) → Q (.ref d) { s with heap := h' }) :
    wpAny (model prog w) A (call (.builtin "sorted") [.ref l]) Q E s := by
  refine sorted_ordT (swo_lex k) hl hz (fun h2 h₁ a ha kk => ?_) h
  refine pairs_sortableO (s := { s with heap := h₁ }) (by omega) (fun v hm => (hp v hm).keeps fun b o e _ => (kk b o e).2) fun o e => ?_
  have e' : some o = some (seqObj "list" vs.toArray 0) := e.symm.trans ha
  cases e'
  intro c
  exact absurd (Value.type.inj c) (by decide)
end
open L2
/-- sorted(xs), xs a tuple of pairs of ints -/
def rSortedPT (K : PySem.W.Frag) : List V → Hp → VK → Prop := fun vs H Q => ∃ (a : Addr) (xs : List V) (k : V → Int × Int), vs = [V.ref a] ∧ H a = some (.tup xs) ∧ (∀ x ∈ xs, ∃ t, x = V.ref t ∧ H t = some (.tup [.int (k x).1, .int (k x).2])) ∧
  ∀ ys p, SrtO.Srtd (ltP k) ys → SrtO.Stb (ltP k) ys xs → H p = none → Q (.ref p) (upd H p (.lst ys))
theorem cr_sortedPT {X : Cx} : CallR X (.builtin "sorted") (rSortedPT X.K) := by
  intro pins s σ H vs us Q I r h
  obtain ⟨a, xs, k, rfl, hs, hx, q⟩ := h
  obtain ⟨hz, its, rv, o, ho, hc, n, hd⟩ := (show ObjOk X.prog X.w H s.heap a (.tup xs) from I.hok a _ hs)
  obtain ⟨u, rfl, ru⟩ := vals1 r
  obtain rfl : u = Value.ref a := ru
  obtain ⟨e1, e2⟩ := refs_back rv fun x m => by
    obtain ⟨t, e, _⟩ := hx x m
    exact ⟨t, e⟩
  refine sorted_pairsT (vs := its) (k := fun u => k (backV u)) ⟨o, ho, hc, n, hd⟩ (by rw [← rv.length]; exact hz) (fun v hv => ?_) fun h' d out h1 h2 kp hd hn => ?_
  · obtain ⟨t, rfl⟩ := e2 v hv
    have hm : V.ref t ∈ xs := by rw [e1]; exact List.mem_map.mpr ⟨_, hv, rfl⟩
    obtain ⟨t', e, ht⟩ := hx _ hm
    cases e
    obtain ⟨_, its2, r2, o, ho, hc, n, hd⟩ := I.hok _ _ ht
    obtain ⟨u1, u2, rfl, ri, rj⟩ := vals2 r2
    obtain ⟨t1, rfl⟩ := ri
    obtain ⟨t2, rfl⟩ := rj
    exact ⟨t, o, t1, t2, n, rfl, ho, hc, hd⟩
  · have h3 : ∀ u ∈ out, ∃ a, u = Value.ref a := fun u hu => e2 u (h2.perm.mem_iff.mp hu)
    obtain ⟨n, hn⟩ := hn
    have hb : SrtO.Stb (ltP k) (out.map backV) xs := by
      rw [e1]
      exact SrtO.Stb.map (ltP_swo k) backV h2
    refine ⟨.ref d, upd H d (.lst (out.map backV)), I.laid (t' := s.toks) kp hd ⟨?_, out, n, vals_back h3, hn⟩, rfl, q _ d (SrtO.srtd_map h1) hb (I.hok.fresh hd)⟩
    rw [hb.len]
    exact hz
end Rf

/-! R3: what each operator and call of values leaves. -/
namespace Rf
open PySem PySem.Spec PyProof.Rows L2

section
variable {A : Ad} {P : Prg} {call : Nat → List D → Mem → R (D × Mem)} {ν : Nu} {H : Hp} {m : Mem}

theorem lstOf_at {d : D} {v : V} {ds : List D} (h : RD A ν H d v) (r : RM A ν H m) (e : lstOf m d = some ds) : ∃ a xs, v = .ref a ∧ H a = some (.lst xs) ∧ RDs A ν H ds xs := by
  cases d with
  | lst xs =>
    simp only [lstOf, Option.some.injEq] at e
    subst e
    simp only [RD] at h
    obtain ⟨a, ys, h1, _, h3, h4⟩ := h
    exact ⟨a, ys, h1, h3, h4⟩
  | ref n =>
    simp only [RD] at h
    obtain ⟨a, h1, h2⟩ := h
    simp only [lstOf] at e
    split at e
    · rename_i ys hm
      cases e
      obtain ⟨a', h3, h4⟩ := r.get hm
      rw [h2] at h3
      cases h3
      obtain ⟨xs, h5, h6⟩ := h4
      exact ⟨a, xs, h1, h5, h6⟩
    · cases e
  | _ => simp [lstOf] at e
theorem itemsOf_at {d : D} {v : V} {ds : List D} (h : RD A ν H d v) (r : RM A ν H m) (e : itemsOf m d = some ds) : ∃ a xs, v = .ref a ∧ (H a = some (.lst xs) ∨ H a = some (.tup xs)) ∧ RDs A ν H ds xs := by
  cases d with
  | tup xs =>
    simp only [itemsOf, Option.some.injEq] at e
    subst e
    simp only [RD] at h
    obtain ⟨a, ys, h1, _, h3, h4⟩ := h
    exact ⟨a, ys, h1, .inr h3, h4⟩
  | lst xs =>
    obtain ⟨a, ys, h1, h2, h3⟩ := lstOf_at h r (show lstOf m (.lst xs) = some ds from e)
    exact ⟨a, ys, h1, .inl h2, h3⟩
  | ref n =>
    obtain ⟨a, ys, h1, h2, h3⟩ := lstOf_at h r (show lstOf m (.ref n) = some ds from e)
    exact ⟨a, ys, h1, .inl h2, h3⟩
  | _ => simp [itemsOf, lstOf] at e
theorem sq_of {K : PySem.W.Frag} {a : Addr} {xs : List V} (h : H a = some (.lst xs) ∨ H a = some (.tup xs)) : SqL K H a xs ∨ SqT K H a xs := h.imp SqL.of SqT.of
theorem lim_line {n : Nat} (h : n ≤ LIM) : n ≤ sizeLine := by rw [sizeLine_eq]; exact h

/-- a new tuple, a new list -/
theorem new_tup {xs : List V} {ds : List D} {p : Addr} (h : H p = none) (r : RM A ν H m) (rd : RDs A ν H ds xs) : RD A ν (upd H p (.tup xs)) (.tup ds) (.ref p) := by
  simp only [RD]
  refine ⟨p, xs, rfl, fun z => ?_, upd_same, RDs.mono (Ext.same h) ds xs rd⟩
  obtain ⟨o, ho⟩ := r.mem z
  rw [h] at ho; cases ho
theorem new_lst {xs : List V} {ds : List D} {p : Addr} (h : H p = none) (r : RM A ν H m) (rd : RDs A ν H ds xs) : RD A ν (upd H p (.lst xs)) (.lst ds) (.ref p) := by
  simp only [RD]
  refine ⟨p, xs, rfl, fun z => ?_, upd_same, RDs.mono (Ext.same h) ds xs rd⟩
  obtain ⟨o, ho⟩ := r.mem z
  rw [h] at ho; cases ho
theorem mkT_ok {Q : VK} {E : XK} {xs : List V} {ds : List D} (r : RM A ν H m) (rd : RDs A ν H ds xs) (o : Out A (RD A) ν H (mkT ds m) Q E) : xs.length ≤ sizeLine ∧ ∀ p, H p = none → Q (.ref p) (upd H p (.tup xs)) := by
  unfold mkT at o
  split at o
  · rename_i hl
    exact ⟨by rw [rd.length]; exact lim_line hl, fun p hp => o _ ν _ (Ext.same hp) (new_tup hp r rd) (r.fresh hp)⟩
  · exact o.elim
theorem mkL_ok {Q : VK} {E : XK} {xs : List V} {ds : List D} {fz : Bool} (r : RM A ν H m) (rd : RDs A ν H ds xs) (o : Out A (RD A) ν H (mkL fz ds m) Q E) : xs.length ≤ sizeLine ∧ ∀ p, H p = none → Q (.ref p) (upd H p (.lst xs)) := by
  unfold mkL at o
  split at o
  · rename_i hl
    refine ⟨by rw [rd.length]; exact lim_line hl, fun p hp => ?_⟩
    cases fz with
    | true => exact o _ ν _ (Ext.same hp) (new_lst hp r rd) (r.fresh hp)
    | false =>
      refine o _ (ν.add p) _ (Ext.alloc hp) ?_ (r.alloc hp ⟨xs, upd_same, RDs.mono (Ext.alloc hp) ds xs rd⟩)
      simp only [RD]
      exact ⟨p, rfl, by show (ν.c ++ [p])[m.length]? = some p; rw [← r.len]; simp⟩
  · exact o.elim

/-! ### two ints -/
theorem arith_ok {f : Int → Int → R (D × Mem)} {a b : D} {x y : V} {Q : VK} {E : XK} (ra : RD A ν H a x) (rb : RD A ν H b y) (o : Out A (RD A) ν H (arith f [a, b]) Q E) :
    ∃ i j, x = .int i ∧ y = .int j ∧ a = .int i ∧ b = .int j ∧ Out A (RD A) ν H (f i j) Q E := by
  cases a with
  | int i =>
    cases b with
    | int j =>
      simp only [RD] at ra rb
      exact ⟨i, j, ra, rb, rfl, rfl, o⟩
    | _ => exact o.elim
  | _ => exact o.elim
theorem out_int {i : Int} {Q : VK} {E : XK} (r : RM A ν H m) (o : Out A (RD A) ν H (.ok (.int i, m)) Q E) : Q (.int i) H := o _ ν H (Ext.refl _ _) (by simp only [RD]) r
theorem out_bl {i : Bool} {Q : VK} {E : XK} (r : RM A ν H m) (o : Out A (RD A) ν H (.ok (.bl i, m)) Q E) : Q (.bl i) H := o _ ν H (Ext.refl _ _) (by simp only [RD]) r
theorem out_same {d : D} {v : V} {Q : VK} {E : XK} (rd : RD A ν H d v) (r : RM A ν H m) (o : Out A (RD A) ν H (.ok (d, m)) Q E) : Q v H := o _ ν H (Ext.refl _ _) rd r

/-- what a rule of two values asks is answered -/
def R2Ok (A : Ad) (P : Prg) (call : Nat → List D → Mem → R (D × Mem)) (p : Prim) (r : R2) : Prop :=
  ∀ (ν : Nu) (H : Hp) (m : Mem) (a b : D) (x y : V) (Q : VK) (E : XK), RD A ν H a x → RD A ν H b y → RM A ν H m → Out A (RD A) ν H (prim P call p [a, b] m) Q E → r x y H Q
def R1Ok (A : Ad) (P : Prg) (call : Nat → List D → Mem → R (D × Mem)) (p : Prim) (r : V → Hp → VK → Prop) : Prop :=
  ∀ (ν : Nu) (H : Hp) (m : Mem) (a : D) (x : V) (Q : VK) (E : XK), RD A ν H a x → RM A ν H m → Out A (RD A) ν H (prim P call p [a] m) Q E → r x H Q
/-- .. of a list of values -/
def RLOk (A : Ad) (P : Prg) (call : Nat → List D → Mem → R (D × Mem)) (p : Prim) (r : List V → Hp → VK → Prop) : Prop :=
  ∀ (ν : Nu) (H : Hp) (m : Mem) (ds : List D) (xs : List V) (Q : VK) (E : XK), RDs A ν H ds xs → RM A ν H m → Out A (RD A) ν H (prim P call p ds m) Q E → r xs H Q

theorem Sm_log {i : Int} (h : Sm i = true) : i.natAbs.log2 < 3400 := by
  have h1 : i.natAbs < BIG := of_decide_eq_true h
  have h2 : BIG < 2 ^ 3400 := by decide +kernel
  exact PySem.Flt.log2_lt_of (by decide) (Nat.lt_trans h1 h2)
theorem sub_ok : R2Ok A P call .sub (rI0 fun i j => .int (i - j)) := by
  intro ν H m a b x y Q E ra rb r o
  obtain ⟨i, j, rfl, rfl, rfl, rfl, o⟩ := arith_ok ra rb (show Out A (RD A) ν H (arith (fun i j => .ok (.int (i - j), m)) [a, b]) Q E from o)
  exact ⟨i, j, rfl, rfl, out_int r o⟩
theorem lt_ok : R2Ok A P call .lt (rI0 fun i j => .bl (decide (i < j))) := by
  intro ν H m a b x y Q E ra rb r o
  obtain ⟨i, j, rfl, rfl, rfl, rfl, o⟩ := arith_ok ra rb (show Out A (RD A) ν H (arith (fun i j => .ok (.bl (decide (i < j)), m)) [a, b]) Q E from o)
  exact ⟨i, j, rfl, rfl, out_bl r o⟩
theorem le_ok : R2Ok A P call .le (rI0 fun i j => .bl (decide (i ≤ j))) := by
  intro ν H m a b x y Q E ra rb r o
  obtain ⟨i, j, rfl, rfl, rfl, rfl, o⟩ := arith_ok ra rb (show Out A (RD A) ν H (arith (fun i j => .ok (.bl (decide (i ≤ j)), m)) [a, b]) Q E from o)
  exact ⟨i, j, rfl, rfl, out_bl r o⟩
theorem gt_ok : R2Ok A P call .gt (rI0 fun i j => .bl (decide (j < i))) := by
  intro ν H m a b x y Q E ra rb r o
  obtain ⟨i, j, rfl, rfl, rfl, rfl, o⟩ := arith_ok ra rb (show Out A (RD A) ν H (arith (fun i j => .ok (.bl (decide (j < i)), m)) [a, b]) Q E from o)
  exact ⟨i, j, rfl, rfl, out_bl r o⟩
theorem ge_ok : R2Ok A P call .ge (rI0 fun i j => .bl (decide (j ≤ i))) := by
  intro ν H m a b x y Q E ra rb r o
  obtain ⟨i, j, rfl, rfl, rfl, rfl, o⟩ := arith_ok ra rb (show Out A (RD A) ν H (arith (fun i j => .ok (.bl (decide (j ≤ i)), m)) [a, b]) Q E from o)
  exact ⟨i, j, rfl, rfl, out_bl r o⟩
theorem fdiv_ok : R2Ok A P call .fdiv (rI CDivW fun i j => .int (i / j)) := by
  intro ν H m a b x y Q E ra rb r o
  obtain ⟨i, j, rfl, rfl, rfl, rfl, o2⟩ := arith_ok ra rb (show Out A (RD A) ν H (arith (fun i j => if 0 < j ∧ Sm j = true then .ok (.int (i / j), m) else .bad) [a, b]) Q E from o)
  split at o2
  · rename_i h
    exact ⟨i, j, rfl, rfl, ⟨h.1, Nat.lt_trans (Sm_log h.2) (by decide)⟩, out_int r o2⟩
  · exact o2.elim
theorem mod_ok : R2Ok A P call .mod (rI (fun _ j => 0 < j) fun i j => .int (i % j)) := by
  intro ν H m a b x y Q E ra rb r o
  obtain ⟨i, j, rfl, rfl, rfl, rfl, o2⟩ := arith_ok ra rb (show Out A (RD A) ν H (arith (fun i j => if 0 < j then .ok (.int (i % j), m) else .bad) [a, b]) Q E from o)
  split at o2
  · rename_i h
    exact ⟨i, j, rfl, rfl, h, out_int r o2⟩
  · exact o2.elim
def CPowW (i j : Int) : Prop := 0 ≤ j ∧ (Builtin.Int.intBits i : Int) * j ≤ 2 ^ 27
theorem op_powW {X : Cx} : OpR X (binaryOp .Pow) (rI CPowW fun i j => .int (i ^ j.toNat)) := opI fun _ _ _ _ _ _ _ hc q => pow_int hc.1 hc.2 q
theorem pow_ok : R2Ok A P call .pow (rI CPowW fun i j => .int (i ^ j.toNat)) := by
  intro ν H m a b x y Q E ra rb r o
  obtain ⟨i, j, rfl, rfl, rfl, rfl, o2⟩ := arith_ok ra rb (show Out A (RD A) ν H (arith (fun i j => if 0 ≤ j ∧ j ≤ 1000 ∧ i.natAbs < 2 ^ 256 then .ok (.int (i ^ j.toNat), m) else .bad) [a, b]) Q E from o)
  split at o2
  · rename_i h
    refine ⟨i, j, rfl, rfl, ⟨h.1, ?_⟩, out_int r o2⟩
    have h1 : Builtin.Int.intBits i ≤ 256 := by
      have h2 := PySem.Flt.log2_lt_of (k := 256) (by decide) h.2.2
      unfold Builtin.Int.intBits
      split <;> omega
    have h3 : (Builtin.Int.intBits i : Int) * j ≤ 256 * 1000 := Int.mul_le_mul (by omega) h.2.1 h.1 (by decide)
    exact Int.le_trans h3 (by decide)
  · exact o2.elim

/-! ### + and * -/
abbrev rAddL : R2 := fun x y H Q => (rI0 fun i j => .int (i + j)) x y H Q ∨ (∃ i j, x = .str i ∧ y = .str j ∧ i.length + j.length ≤ sizeLine ∧ Q (.str (i ++ j)) H) ∨ rCat x y H Q
def rAdd3 (K : PySem.W.Frag) : R2 := fun x y H Q => rAddL x y H Q ∨ rCatA K x y H Q
theorem op_add3 {X : Cx} : OpR X (binaryOp .Add) (rAdd3 X.K) := (op_add.or (op_add_str.or op_cat)).or op_catA
theorem iop_addL {X : Cx} : OpR X (inplaceOp .Add) (fun x y H Q => (rI0 fun i j => .int (i + j)) x y H Q ∨ (∃ i j, x = .str i ∧ y = .str j ∧ i.length + j.length ≤ sizeLine ∧ Q (.str (i ++ j)) H)) := iop_add.or iop_add_str
theorem add_ok {fz : Bool} {K : PySem.W.Frag} : R2Ok A P call (.add fz) (rAdd3 K) := by
  intro ν H m a b x y Q E ra rb r o
  have lists : ∀ {a b : D}, RD A ν H a x → RD A ν H b y → Out A (RD A) ν H (match lstOf m a, lstOf m b with | some xs, some ys => mkL fz (xs ++ ys) m | _, _ => .bad) Q E → rCat x y H Q := by
    intro a b ra rb o
    split at o
    · rename_i xs ys h1 h2
      obtain ⟨p, vs, rfl, hp, r1⟩ := lstOf_at ra r h1
      obtain ⟨q, ws, rfl, hq, r2⟩ := lstOf_at rb r h2
      obtain ⟨hl, hq'⟩ := mkL_ok r (r1.append r2) o
      exact ⟨p, q, vs, ws, rfl, rfl, hp, hq, by simpa using hl, hq'⟩
    · exact o.elim
  cases a with
  | int i =>
    cases b with
    | int j =>
      simp only [RD] at ra rb
      exact .inl (.inl ⟨i, j, ra, rb, out_int r o⟩)
    | _ => exact .inl (.inr (.inr (lists ra rb o)))
  | str s =>
    cases b with
    | str t =>
      simp only [RD] at ra rb
      have o' : Out A (RD A) ν H (if s.length + t.length ≤ LIM then .ok (.str (s ++ t), m) else .bad) Q E := o
      split at o'
      · rename_i hl
        exact .inl (.inr (.inl ⟨s, t, ra, rb, lim_line hl, o' _ ν H (Ext.refl _ _) (by simp only [RD]) r⟩))
      · exact o'.elim
    | _ => exact .inl (.inr (.inr (lists ra rb o)))
  | tup xs =>
    cases b with
    | tup ys =>
      simp only [RD] at ra rb
      obtain ⟨p, vs, rfl, np, hp, r1⟩ := ra
      obtain ⟨q, ws, rfl, nq, hq, r2⟩ := rb
      have o' : Out A (RD A) ν H (mkT (xs ++ ys) m) Q E := o
      obtain ⟨hl, hq'⟩ := mkT_ok r (r1.append r2) o'
      refine .inr ⟨p, q, vs, ws, rfl, rfl, SqT.of hp, SqT.of hq, by simpa using hl, fun e => ?_, fun _ e => ?_, fun _ _ => hq'⟩
      · subst e
        have e2 : xs = [] := List.length_eq_zero_iff.mp r1.length.symm
        subst e2
        unfold mkT at o'
        split at o'
        · exact out_same (by simp only [RD]; exact ⟨q, ws, rfl, nq, hq, r2⟩) r o'
        · exact o'.elim
      · subst e
        have e2 : ys = [] := List.length_eq_zero_iff.mp r2.length.symm
        subst e2
        unfold mkT at o'
        split at o'
        · exact out_same (by simp only [RD, List.append_nil]; exact ⟨p, vs, rfl, np, hp, r1⟩) r o'
        · exact o'.elim
    | _ => exact .inl (.inr (.inr (lists ra rb o)))
  | lst xs => exact .inl (.inr (.inr (lists ra rb o)))
  | ref n => exact .inl (.inr (.inr (lists ra rb o)))
  | non => exact .inl (.inr (.inr (lists ra rb o)))
  | bl _ => exact .inl (.inr (.inr (lists ra rb o)))
  | scr _ => exact .inl (.inr (.inr (lists ra rb o)))
  | ins _ _ => exact .inl (.inr (.inr (lists ra rb o)))
  | fn _ => exact .inl (.inr (.inr (lists ra rb o)))
def rMul2 : R2 := fun x y H Q => (rI CMulW (fun i j => .int (i * j)) x y H Q ∨ rI CMul (fun i j => .int (i * j)) x y H Q) ∨ rRep x y H Q
theorem op_mul2 {X : Cx} : OpR X (binaryOp .Mult) rMul2 := (op_mulW.or op_mul).or op_rep
theorem mul_ok {fz : Bool} : R2Ok A P call (.mul fz) rMul2 := by
  intro ν H m a b x y Q E ra rb r o
  have lists : ∀ {a : D} {k : Int}, RD A ν H a x → y = .int k → Out A (RD A) ν H (match lstOf m a with | some xs => if 0 ≤ k ∧ xs.length * k.toNat ≤ LIM ∧ k ≤ 16777216 then mkL fz (List.replicate k.toNat xs).flatten m else .bad | none => .bad) Q E → rRep x y H Q := by
    intro a k ra ey o
    split at o
    · rename_i xs h1
      split at o
      · rename_i h2
        obtain ⟨p, vs, rfl, hp, r1⟩ := lstOf_at ra r h1
        obtain ⟨hl, hq⟩ := mkL_ok r (r1.rep k.toNat) o
        exact ⟨p, k, vs, rfl, ey, hp, by have := h2.1; omega, by have := h2.2.2; omega, by rw [r1.length]; exact lim_line h2.2.1, hq⟩
      · exact o.elim
    · exact o.elim
  cases b with
  | int j =>
    have ey : y = .int j := by simpa only [RD] using rb
    cases a with
    | int i =>
      simp only [RD] at ra
      have o' : Out A (RD A) ν H (if mulB i j = true then .ok (.int (i * j), m) else .bad) Q E := o
      split at o'
      · rename_i hs
        simp only [mulB, s64, Bool.or_eq_true, Bool.and_eq_true, decide_eq_true_eq] at hs
        rcases hs with (hs | hs) | ⟨h1, h2⟩
        · exact .inl (.inr ⟨i, j, ra, ey, .inl hs, out_int r o'⟩)
        · exact .inl (.inr ⟨i, j, ra, ey, .inr hs, out_int r o'⟩)
        refine .inl (.inl ⟨i, j, ra, ey, ?_, out_int r o'⟩)
        have := Sm_log h1
        have := Sm_log h2
        show _ + _ < _
        omega
      · exact o'.elim
    | _ => exact .inr (lists ra ey o)
  | _ => cases a <;> exact o.elim
theorem neg_ok : R1Ok A P call .neg (rU fun i => .int (-i)) := by
  intro ν H m a x Q E ra r o
  cases a with
  | int i =>
    simp only [RD] at ra
    exact ⟨i, ra, out_int r o⟩
  | _ => exact o.elim

/-! ### truth -/
theorem truth_at {K : PySem.W.Frag} {d : D} {v : V} {b : Bool} (h : RD A ν H d v) (r : RM A ν H m) (e : truth m d = some b) : TruV K v H b := by
  have nil : ∀ {ds : List D} {vs : List V}, RDs A ν H ds vs → (!ds.isEmpty) = !vs.isEmpty := by
    intro ds vs h
    have := h.length
    cases ds <;> cases vs <;> simp_all
  cases d with
  | non => simp only [RD] at h; simp only [truth, Option.some.injEq] at e; subst h e; rfl
  | bl c => simp only [RD] at h; simp only [truth, Option.some.injEq] at e; subst h e; rfl
  | int i => simp only [RD] at h; simp only [truth, Option.some.injEq] at e; subst h e; rfl
  | str s =>
    simp only [RD] at h
    subst h
    simp only [truth] at e
    split at e
    · rename_i hl
      cases e
      exact ⟨lim_line hl, rfl⟩
    · cases e
  | tup ds =>
    simp only [RD] at h
    obtain ⟨a, xs, rfl, _, h3, h4⟩ := h
    simp only [truth, Option.some.injEq] at e
    subst e
    exact .inr (.inl ⟨xs, SqT.of h3, nil h4⟩)
  | lst ds =>
    simp only [RD] at h
    obtain ⟨a, xs, rfl, _, h3, h4⟩ := h
    simp only [truth, Option.some.injEq] at e
    subst e
    exact .inl ⟨xs, SqL.of h3, nil h4⟩
  | ref n =>
    simp only [truth] at e
    split at e
    · rename_i ys hm
      cases e
      obtain ⟨a, xs, rfl, h3, h4⟩ := lstOf_at h r (show lstOf m (.ref n) = some ys by simp only [lstOf, hm])
      exact .inl ⟨xs, SqL.of h3, nil h4⟩
    · cases e
  | _ => simp [truth] at e

/-! ### == -/
theorem dat_at {K : PySem.W.Frag} {rf : Nat → Option PyData} (hrf : ∀ (n : Nat) (v : V) (p : PyData), RD A ν H (.ref n) v → rf n = some p → Dp K H v p) :
    (∀ (d : D) (v : V) (p : PyData), RD A ν H d v → D.dat rf d = some p → Dp K H v p) ∧ (∀ (ds : List D) (vs : List V) (ps : List PyData), RDs A ν H ds vs → D.dats rf ds = some ps → DpAll K H vs ps) := by
  have key : ∀ (k : Nat), (∀ (d : D), sizeOf d ≤ k → ∀ (v : V) (p : PyData), RD A ν H d v → D.dat rf d = some p → Dp K H v p) ∧ (∀ (ds : List D), sizeOf ds ≤ k → ∀ (vs : List V) (ps : List PyData), RDs A ν H ds vs → D.dats rf ds = some ps → DpAll K H vs ps) := by
    intro k
    induction k with
    | zero =>
      refine ⟨fun d hd => ?_, fun ds hd => ?_⟩
      · cases d <;> simp at hd <;> omega
      · cases ds <;> simp at hd <;> omega
    | succ k ih =>
      refine ⟨fun d hd v p h e => ?_, fun ds hd vs ps h e => ?_⟩
      · cases d with
        | non => simp only [RD] at h; simp only [D.dat, Option.some.injEq] at e; subst h e; exact .non
        | bl c => simp only [RD] at h; simp only [D.dat, Option.some.injEq] at e; subst h e; exact .bl _
        | int i => simp only [RD] at h; simp only [D.dat, Option.some.injEq] at e; subst h e; exact .int _
        | str s => simp only [RD] at h; simp only [D.dat, Option.some.injEq] at e; subst h e; exact .str _
        | tup ds =>
          simp only [RD] at h
          obtain ⟨a, xs, rfl, _, h3, h4⟩ := h
          simp only [D.dat, Option.map_eq_some_iff] at e
          obtain ⟨ps, e1, rfl⟩ := e
          exact .tup (SqT.of h3) (ih.2 ds (by simp at hd; omega) xs ps h4 e1)
        | lst ds =>
          simp only [RD] at h
          obtain ⟨a, xs, rfl, _, h3, h4⟩ := h
          simp only [D.dat, Option.map_eq_some_iff] at e
          obtain ⟨ps, e1, rfl⟩ := e
          exact .lst (SqL.of h3) (ih.2 ds (by simp at hd; omega) xs ps h4 e1)
        | ref n =>
          simp only [D.dat] at e
          exact hrf n v p h e
        | _ => simp [D.dat] at e
      · cases ds with
        | nil =>
          rw [h.inv0]
          simp only [D.dats, Option.some.injEq] at e
          subst e
          exact .nil
        | cons d ds =>
          obtain ⟨x, r, rfl, h2, h3⟩ := h.inv
          simp only [D.dats] at e
          split at e
          · rename_i a b e1 e2
            cases e
            have s1 : sizeOf d ≤ k := by simp at hd; omega
            have s2 : sizeOf ds ≤ k := by simp at hd; omega
            exact .cons (ih.1 d s1 x a h2 e1) (ih.2 ds s2 r b h3 e2)
          · cases e
  exact ⟨fun d => (key (sizeOf d)).1 d (Nat.le_refl _), fun ds => (key (sizeOf ds)).2 ds (Nat.le_refl _)⟩
theorem refDat_at {K : PySem.W.Frag} (r : RM A ν H m) : ∀ (k n : Nat) (v : V) (p : PyData), RD A ν H (.ref n) v → refDat m k n = some p → Dp K H v p
  | 0, _, _, _, _, e => by simp [refDat] at e
  | k + 1, n, v, p, h, e => by
    simp only [refDat] at e
    split at e
    · rename_i xs hm
      simp only [Option.map_eq_some_iff] at e
      obtain ⟨ps, e1, rfl⟩ := e
      obtain ⟨a, ys, rfl, h3, h4⟩ := lstOf_at h r (show lstOf m (.ref n) = some xs by simp only [lstOf, hm])
      exact .lst (SqL.of h3) ((dat_at (refDat_at r k)).2 xs ys ps h4 e1)
    · cases e
theorem datOf_at {K : PySem.W.Frag} {d : D} {v : V} {p : PyData} (h : RD A ν H d v) (r : RM A ν H m) (e : datOf m d = some p) : Dp K H v p := (dat_at (refDat_at r 4)).1 d v p h e
theorem eqD_ok {neg : Bool} {K : PySem.W.Frag} {a b : D} {x y : V} {Q : VK} {E : XK} (ra : RD A ν H a x) (rb : RD A ν H b y) (r : RM A ν H m)
    (o : Out A (RD A) ν H (match datOf m a, datOf m b with
    | some x, some y => if (SeqAt.shaped x && SeqAt.shaped y) = true then .ok (.bl (if neg then !PyData.eqv x y else PyData.eqv x y), m) else .bad
    | _, _ => .bad) Q E) : ∃ d e, Dp K H x d ∧ Dp K H y e ∧ SeqAt.shaped d = true ∧ SeqAt.shaped e = true ∧ Q (.bl (if neg then !PyData.eqv d e else PyData.eqv d e)) H := by
  split at o
  · rename_i p q h1 h2
    split at o
    · rename_i hs
      obtain ⟨s1, s2⟩ := Bool.and_eq_true_iff.mp hs
      exact ⟨p, q, datOf_at ra r h1, datOf_at rb r h2, s1, s2, out_bl r o⟩
    · exact o.elim
  · exact o.elim

/-! ### is -/
theorem RD.non_iff {d : D} {v : V} (h : RD A ν H d v) : decide (d = .non) = decide (v = .non) := by
  cases d with
  | non => simp only [RD] at h; subst h; rfl
  | tup ds => simp only [RD] at h; obtain ⟨a, xs, rfl, _⟩ := h; rfl
  | lst ds => simp only [RD] at h; obtain ⟨a, xs, rfl, _⟩ := h; rfl
  | scr ds => simp only [RD] at h; obtain ⟨a, rfl, _⟩ := h; rfl
  | ins c ds => simp only [RD] at h; obtain ⟨a, dx, vs, rfl, _⟩ := h; rfl
  | ref n => simp only [RD] at h; obtain ⟨a, rfl, _⟩ := h; rfl
  | bl _ => simp only [RD] at h; subst h; rfl
  | int _ => simp only [RD] at h; subst h; rfl
  | str _ => simp only [RD] at h; subst h; rfl
  | fn _ => simp only [RD] at h; subst h; rfl
def rIs2 : R2 := fun x y H Q => (y = .non ∧ Q (.bl (decide (x = .non))) H) ∨ rIsB x y H Q
def rIsnot2 : R2 := fun x y H Q => (y = .non ∧ Q (.bl (!decide (x = .non))) H) ∨ rNotB x y H Q
theorem op_is2 {X : Cx} : OpR X (compareOp .Is) rIs2 := op_isN.or op_isBl
theorem op_isnot2 {X : Cx} : OpR X (compareOp .IsNot) rIsnot2 := op_notN.or op_notBl
theorem is_ok : R2Ok A P call .is_ rIs2 := by
  intro ν H m a b x y Q E ra rb r o
  cases b with
  | non =>
    have o' : Out A (RD A) ν H (.ok (.bl (decide (a = .non)), m)) Q E := by cases a <;> exact o
    rw [ra.non_iff] at o'
    exact .inl ⟨by simpa only [RD] using rb, out_bl r o'⟩
  | bl c =>
    cases a with
    | bl d =>
      simp only [RD] at ra rb
      exact .inr ⟨d, c, ra, rb, out_bl r o⟩
    | _ => exact o.elim
  | _ => cases a <;> exact o.elim
theorem isnot_ok : R2Ok A P call .isnot rIsnot2 := by
  intro ν H m a b x y Q E ra rb r o
  cases b with
  | non =>
    have o' : Out A (RD A) ν H (.ok (.bl (!decide (a = .non)), m)) Q E := by cases a <;> exact o
    rw [ra.non_iff] at o'
    exact .inl ⟨by simpa only [RD] using rb, out_bl r o'⟩
  | bl c =>
    cases a with
    | bl d =>
      simp only [RD] at ra rb
      exact .inr ⟨d, c, ra, rb, out_bl r o⟩
    | _ => exact o.elim
  | _ => cases a <;> exact o.elim

/-! ### subscripts -/
theorem ixN_map {α β : Type} {xs : List α} {ys : List β} {i : Int} (h : xs.length = ys.length) : ixN xs.length i = ixN ys.length i := by rw [h]
theorem atI_rel {ds : List D} {vs : List V} {i : Int} {d : D} (h : RDs A ν H ds vs) (e : atI ds i = some d) : ∃ v, atI vs i = some v ∧ RD A ν H d v := by
  unfold atI at e ⊢
  rw [h.length]
  cases q : ixN ds.length i with
  | none => rw [q] at e; simp at e
  | some j =>
    rw [q] at e
    exact h.get (by simpa using e)
theorem atI_int {ns : List Int} {i n : Int} (e : atI ns i = some n) : atI (ns.map V.int) i = some (.int n) := by
  unfold atI at e ⊢
  rw [List.length_map]
  cases q : ixN ns.length i with
  | none => rw [q] at e; simp at e
  | some j =>
    rw [q] at e
    simp only [Option.bind_some] at e ⊢
    rw [List.getElem?_map, e]; rfl
theorem ix_ok (hK : A.K = K') : R2Ok A P call .ix (fun x y H Q => rIxL K' x y H Q ∨ rIxT K' x y H Q) := by
  intro ν H m a b x y Q E ra rb r o
  have gen : ∀ {a : D} {i : Int}, RD A ν H a x → y = .int i → Out A (RD A) ν H (match (itemsOf m a).bind fun xs => atI xs i with | some d => .ok (d, m) | none => .bad) Q E → rIxL K' x y H Q ∨ rIxT K' x y H Q := by
    intro a i ra ey o
    split at o
    · rename_i d h1
      obtain ⟨ds, h2, h3⟩ := Option.bind_eq_some_iff.mp h1
      obtain ⟨p, xs, rfl, hp, h4⟩ := itemsOf_at ra r h2
      obtain ⟨v, h5, h6⟩ := atI_rel h4 h3
      rcases hp with hp | hp
      · exact .inl ⟨p, xs, i, v, rfl, ey, SqL.of hp, h5, out_same h6 r o⟩
      · exact .inr ⟨p, xs, i, v, rfl, ey, SqT.of hp, h5, out_same h6 r o⟩
    · exact o.elim
  cases b with
  | int i =>
    have ey : y = .int i := by simpa only [RD] using rb
    cases a with
    | scr ns =>
      simp only [RD] at ra
      obtain ⟨p, rfl, hp⟩ := ra
      have o' : Out A (RD A) ν H (match atI ns i with | some x => .ok (.int x, m) | none => .bad) Q E := o
      split at o'
      · rename_i n hn
        exact .inl ⟨p, _, i, .int n, rfl, ey, by rw [← hK]; exact hp.seq, atI_int hn, out_int r o'⟩
      · exact o'.elim
    | _ => exact gen ra ey o
  | _ => cases a <;> exact o.elim
theorem cutV_rel {ds : List D} {vs : List V} {lo hi : Option Int} (h : RDs A ν H ds vs) : RDs A ν H (cutD ds lo hi) (cutV vs lo hi) := by
  unfold cutD cutV
  rw [h.length]
  exact (h.drop _).take _
theorem slice_ok {fz : Bool} {d : D} {v : V} {lo hi : Option Int} {Q : VK} {E : XK} {K : PySem.W.Frag} (ra : RD A ν H d v) (r : RM A ν H m) (o : Out A (RD A) ν H (sliceOf fz d lo hi m) Q E) : rSlL K v lo hi H Q ∨ rSlA K v lo hi H Q := by
  have gen : ∀ {d : D}, RD A ν H d v → Out A (RD A) ν H (match lstOf m d with | some xs => mkL fz (cutD xs lo hi) m | none => .bad) Q E → rSlL K v lo hi H Q := by
    intro d ra o
    split at o
    · rename_i xs h1
      obtain ⟨p, ys, rfl, hp, h4⟩ := lstOf_at ra r h1
      exact ⟨p, ys, rfl, SqL.of hp, (mkL_ok r (cutV_rel h4) o).2⟩
    · exact o.elim
  cases d with
  | tup ds =>
    have ra' := ra
    simp only [RD] at ra
    obtain ⟨p, xs, rfl, np, hp, h4⟩ := ra
    have o' : Out A (RD A) ν H (.ok (.tup (cutD ds lo hi), m)) Q E := o
    refine .inr ⟨p, xs, rfl, SqT.of hp, fun hw => ?_, fun hw q hq => ?_⟩
    · have e : cutD ds lo hi = ds := by
        unfold cutD
        rw [← h4.length, hw.1, hw.2]
        simp [h4.length]
      rw [e] at o'
      exact out_same ra' r o'
    · exact o' _ ν _ (Ext.same hq) (new_tup hq r (cutV_rel h4)) (r.fresh hq)
  | lst ds => exact .inl (gen ra o)
  | ref n => exact .inl (gen ra o)
  | _ => exact (show False from o).elim

/-! ### in -/
theorem flat_at {d : D} {v : V} (h : RD A ν H d v) (f : flatD d = true) : flatV v = true := by
  cases d <;> simp only [RD] at h <;> first | (subst h; rfl) | (simp [flatD] at f)
theorem flats_at : ∀ {ds : List D} {vs : List V}, RDs A ν H ds vs → ds.all flatD = true → vs.all flatV = true
  | [], _, h, _ => by rw [h.inv0]; rfl
  | d :: ds, vs, h, f => by
    obtain ⟨x, r, rfl, h2, h3⟩ := h.inv
    rw [List.all_cons, Bool.and_eq_true] at f
    rw [List.all_cons, flat_at h2 f.1, flats_at h3 f.2]; rfl
theorem eqF_at {d e : D} {v w : V} (h : RD A ν H d v) (k : RD A ν H e w) (f : flatD d = true) (g : flatD e = true) : eqF d e = eqV v w := by
  cases d <;> simp only [RD] at h <;> first | (simp [flatD] at f; done) | (subst h; cases e <;> simp only [RD] at k <;> first | (simp [flatD] at g; done) | (subst k; rfl))
theorem anyF_at {e : D} {w : V} (k : RD A ν H e w) (g : flatD e = true) : ∀ {ds : List D} {vs : List V}, RDs A ν H ds vs → ds.all flatD = true → (ds.any fun y => eqF y e) = inV w vs
  | [], _, h, _ => by rw [h.inv0]; rfl
  | d :: ds, vs, h, f => by
    obtain ⟨x, r, rfl, h2, h3⟩ := h.inv
    rw [List.all_cons, Bool.and_eq_true] at f
    have ih := anyF_at k g h3 f.2
    unfold inV at ih ⊢
    rw [List.any_cons, List.any_cons, ih, eqF_at h2 k f.1 g]
theorem in_ok {neg : Bool} {K : PySem.W.Frag} {a b : D} {x y : V} {Q : VK} {E : XK} (ra : RD A ν H a x) (rb : RD A ν H b y) (r : RM A ν H m) (o : Out A (RD A) ν H (inOf neg a b m) Q E) : rIn K neg x y H Q := by
  unfold inOf at o
  split at o
  · rename_i xs h1
    split at o
    · rename_i hf
      obtain ⟨f1, f2⟩ := Bool.and_eq_true_iff.mp hf
      obtain ⟨p, zs, rfl, hp, h4⟩ := itemsOf_at rb r h1
      refine ⟨p, zs, rfl, sq_of hp, flat_at ra f1, flats_at h4 f2, ?_⟩
      have q := out_bl r o
      rw [anyF_at ra f1 h4 f2] at q
      exact q
    · exact o.elim
  · exact o.elim

/-! ### calls of built-ins -/
theorem one_inv {d : D} {xs : List V} (h : RDs A ν H [d] xs) : ∃ x, xs = [x] ∧ RD A ν H d x := by
  obtain ⟨x, r, rfl, h2, h3⟩ := h.inv
  rw [h3.inv0]
  exact ⟨x, rfl, h2⟩
theorem two_inv {d e : D} {xs : List V} (h : RDs A ν H [d, e] xs) : ∃ x y, xs = [x, y] ∧ RD A ν H d x ∧ RD A ν H e y := by
  obtain ⟨x, r, rfl, h2, h3⟩ := h.inv
  obtain ⟨y, rfl, h4⟩ := one_inv h3
  exact ⟨x, y, rfl, h2, h4⟩
theorem out_bad {Q : VK} {E : XK} {r : R (D × Mem)} (o : Out A (RD A) ν H r Q E) (e : r = .bad) : False := by rw [e] at o; exact o

theorem len_ok (hK : A.K = K') : RLOk A P call .len (fun xs H Q => ∃ x n, xs = [x] ∧ LenV K' x H n ∧ Q (.int n) H) := by
  intro ν H m ds xs Q E rd r o
  match ds, rd, o with
  | [], _, o => exact o.elim
  | [d], rd, o =>
    obtain ⟨x, rfl, h⟩ := one_inv rd
    have gen : ∀ {d : D}, RD A ν H d x → Out A (RD A) ν H (match itemsOf m d with | some xs => .ok (.int xs.length, m) | none => .bad) Q E → ∃ y n, [x] = [y] ∧ LenV K' y H n ∧ Q (.int n) H := by
      intro d h o
      split at o
      · rename_i ys h1
        obtain ⟨p, zs, rfl, hp, h4⟩ := itemsOf_at h r h1
        rcases hp with hp | hp
        · exact ⟨_, _, rfl, .inl ⟨zs, SqL.of hp, h4.length.symm⟩, out_int r o⟩
        · exact ⟨_, _, rfl, .inr ⟨zs, SqT.of hp, h4.length.symm⟩, out_int r o⟩
      · exact o.elim
    cases d with
    | scr ns =>
      simp only [RD] at h
      obtain ⟨p, rfl, hp⟩ := h
      exact ⟨_, ns.length, rfl, .inl ⟨_, by rw [← hK]; exact hp.seq, by simp⟩, out_int r o⟩
    | str s =>
      simp only [RD] at h
      subst h
      have o' : Out A (RD A) ν H (if s.length ≤ LIM then .ok (.int s.length, m) else .bad) Q E := o
      split at o'
      · rename_i hl
        exact ⟨_, s.length, rfl, ⟨lim_line hl, rfl⟩, out_int r o'⟩
      · exact o'.elim
    | _ => exact gen h o
  | d :: _ :: _, _, o => cases d <;> exact o.elim

def rSumT (K : PySem.W.Frag) : List V → Hp → VK → Prop := fun vs H Q => ∃ (a : Addr) (ns : List Int), vs = [V.ref a] ∧ SqT K H a (ns.map V.int) ∧ Q (.int ns.sum) H
theorem cr_sumT {X : Cx} (hc : X.calm = true) : CallR X (.builtin "sum") (rSumT X.K) := by
  intro pins s σ H vs us Q I r h
  obtain ⟨a, ns, rfl, hs, q⟩ := h
  obtain ⟨its, rv, hl, _⟩ := I.tuple hs
  rw [Vals.ref1 r]
  have hi := rv.ints
  obtain ⟨xs, e⟩ := hi.allInts.items
  have hn : numsOf (intItems xs).toList = ns := by rw [← e]; exact hi.numsOf
  rw [nums_intItems] at hn
  rw [e] at hl
  refine PySem.W.ktm_sumG (I.ok.hd hc) hl fun h' tk t' hk => ?_
  rw [preSum_eq, List.take_of_length_le (by simp), hn]
  exact ⟨.int _, H, I.kept hk, ⟨_, rfl⟩, q⟩
theorem sum_ok {K' : PySem.W.Frag} : RLOk A P call .sum (fun xs H Q => rSum K' xs H Q ∨ rSumT K' xs H Q) := by
  intro ν H m ds xs Q E rd r o
  match ds, rd, o with
  | [], _, o => exact o.elim
  | [d], rd, o =>
    obtain ⟨x, rfl, h⟩ := one_inv rd
    have o' : Out A (RD A) ν H (match (itemsOf m d).bind intsD with | some ns => .ok (.int ns.sum, m) | none => .bad) Q E := o
    split at o'
    · rename_i ns h1
      obtain ⟨ys, h2, h3⟩ := Option.bind_eq_some_iff.mp h1
      obtain ⟨p, zs, rfl, hp, h4⟩ := itemsOf_at h r h2
      rw [intsD_eq h3] at h4
      rw [h4.ints] at hp
      rcases hp with hp | hp
      · exact .inl ⟨p, ns, rfl, SqL.of hp, out_int r o'⟩
      · exact .inr ⟨p, ns, rfl, SqT.of hp, out_int r o'⟩
    · exact o'.elim
  | _ :: _ :: _, _, o => exact o.elim
theorem int2_ok {p : Prim} {g : Int → Int → Int} (hp : ∀ ds m, prim P call p ds m = arith (fun i j => .ok (.int (g i j), m)) ds) : RLOk A P call p (fun xs H Q => ∃ i j, xs = [.int i, .int j] ∧ Q (.int (g i j)) H) := by
  intro ν H m ds xs Q E rd r o
  rw [hp] at o
  match ds, rd, o with
  | [], _, o => exact o.elim
  | [d], _, o => cases d <;> exact o.elim
  | [a, b], rd, o =>
    obtain ⟨x, y, rfl, h1, h2⟩ := two_inv rd
    obtain ⟨i, j, rfl, rfl, _, _, o2⟩ := arith_ok h1 h2 o
    exact ⟨i, j, rfl, out_int r o2⟩
  | a :: b :: _ :: _, _, o => cases a <;> first | exact o.elim | (cases b <;> exact o.elim)
theorem max2_ok : RLOk A P call .max2 (fun xs H Q => ∃ i j, xs = [.int i, .int j] ∧ Q (.int (if j > i then j else i)) H) := int2_ok fun _ _ => rfl
theorem min2_ok : RLOk A P call .min2 (fun xs H Q => ∃ i j, xs = [.int i, .int j] ∧ Q (.int (if j < i then j else i)) H) := int2_ok fun _ _ => rfl
theorem abs_ok : RLOk A P call .abs (fun xs H Q => ∃ i, xs = [.int i] ∧ Q (.int (if i < 0 then -i else i)) H) := by
  intro ν H m ds xs Q E rd r o
  match ds, rd, o with
  | [], _, o => exact o.elim
  | [d], rd, o =>
    obtain ⟨x, rfl, h⟩ := one_inv rd
    cases d with
    | int i =>
      simp only [RD] at h
      subst h
      exact ⟨i, rfl, out_int r o⟩
    | _ => exact o.elim
  | d :: _ :: _, _, o => cases d <;> exact o.elim
theorem int_ok : RLOk A P call .int (fun xs H Q => (∃ i, xs = [.int i] ∧ Q (.int i) H) ∨ ∃ k, xs = [.bl k] ∧ Q (.int (if k then 1 else 0)) H) := by
  intro ν H m ds xs Q E rd r o
  match ds, rd, o with
  | [], _, o => exact o.elim
  | [d], rd, o =>
    obtain ⟨x, rfl, h⟩ := one_inv rd
    cases d with
    | int i =>
      simp only [RD] at h
      subst h
      exact .inl ⟨i, rfl, out_int r o⟩
    | bl i =>
      simp only [RD] at h
      subst h
      exact .inr ⟨i, rfl, out_int r o⟩
    | _ => exact o.elim
  | d :: _ :: _, _, o => cases d <;> exact o.elim
theorem tupOf_ok {K' : PySem.W.Frag} : RLOk A P call .tupOf (fun xs H Q => ∃ p ys, xs = [.ref p] ∧ ((SqL K' H p ys ∧ ∀ l, H l = none → Q (.ref l) (upd H l (.tup ys))) ∨ (SqT K' H p ys ∧ Q (.ref p) H))) := by
  intro ν H m ds xs Q E rd r o
  match ds, rd, o with
  | [], _, o => exact o.elim
  | [d], rd, o =>
    obtain ⟨x, rfl, h⟩ := one_inv rd
    have o' : Out A (RD A) ν H (match itemsOf m d with | some xs => .ok (.tup xs, m) | none => .bad) Q E := o
    split at o'
    · rename_i ys h1
      have lists : (∃ a xs, x = .ref a ∧ H a = some (.lst xs) ∧ RDs A ν H ys xs) → ∃ p ys, [x] = [.ref p] ∧ ((SqL K' H p ys ∧ ∀ l, H l = none → Q (.ref l) (upd H l (.tup ys))) ∨ (SqT K' H p ys ∧ Q (.ref p) H)) := by
        rintro ⟨p, zs, e, hp, h4⟩
        subst e
        exact ⟨p, zs, rfl, .inl ⟨SqL.of hp, fun q hq => o' _ ν _ (Ext.same hq) (new_tup hq r h4) (r.fresh hq)⟩⟩
      cases d with
      | tup zs =>
        have e : zs = ys := Option.some.inj h1
        subst e
        have h' := h
        simp only [RD] at h
        obtain ⟨p, ws, rfl, _, hp, _⟩ := h
        exact ⟨p, ws, rfl, .inr ⟨SqT.of hp, out_same h' r o'⟩⟩
      | lst zs => exact lists (lstOf_at h r h1)
      | ref n => exact lists (lstOf_at h r h1)
      | _ => simp [itemsOf, lstOf] at h1
    · exact o'.elim
  | d :: _ :: _, _, o => exact o.elim
theorem listOf_ok {fz : Bool} {K' : PySem.W.Frag} : RLOk A P call (.listOf fz) (fun xs H Q => ∃ p ys, xs = [.ref p] ∧ (SqL K' H p ys ∨ SqT K' H p ys) ∧ ∀ l, H l = none → Q (.ref l) (upd H l (.lst ys))) := by
  intro ν H m ds xs Q E rd r o
  match ds, rd, o with
  | [], _, o => exact o.elim
  | [d], rd, o =>
    obtain ⟨x, rfl, h⟩ := one_inv rd
    have o' : Out A (RD A) ν H (match itemsOf m d with | some xs => mkL fz xs m | none => .bad) Q E := o
    split at o'
    · rename_i ys h1
      obtain ⟨p, zs, rfl, hp, h4⟩ := itemsOf_at h r h1
      exact ⟨p, zs, rfl, sq_of hp, (mkL_ok r h4 o').2⟩
    · exact o'.elim
  | d :: _ :: _, _, o => exact o.elim
theorem all_ok {K' : PySem.W.Frag} : RLOk A P call .all (rAll K') := by
  intro ν H m ds xs Q E rd r o
  match ds, rd, o with
  | [], _, o => exact o.elim
  | [d], rd, o =>
    obtain ⟨x, rfl, h⟩ := one_inv rd
    have o' : Out A (RD A) ν H (match (lstOf m d).bind boolsD with | some bs => .ok (.bl (bs.all id), m) | none => .bad) Q E := o
    split at o'
    · rename_i bs h1
      obtain ⟨ys, h2, h3⟩ := Option.bind_eq_some_iff.mp h1
      obtain ⟨p, zs, rfl, hp, h4⟩ := lstOf_at h r h2
      rw [boolsD_eq h3] at h4
      rw [h4.bls] at hp
      exact ⟨p, bs, rfl, SqL.of hp, out_bl r o'⟩
    · exact o'.elim
  | d :: _ :: _, _, o => exact o.elim
theorem any_ok {K' : PySem.W.Frag} : RLOk A P call .any (rAny K') := by
  intro ν H m ds xs Q E rd r o
  match ds, rd, o with
  | [], _, o => exact o.elim
  | [d], rd, o =>
    obtain ⟨x, rfl, h⟩ := one_inv rd
    have o' : Out A (RD A) ν H (match (lstOf m d).bind boolsD with | some bs => .ok (.bl (bs.any id), m) | none => .bad) Q E := o
    split at o'
    · rename_i bs h1
      obtain ⟨ys, h2, h3⟩ := Option.bind_eq_some_iff.mp h1
      obtain ⟨p, zs, rfl, hp, h4⟩ := lstOf_at h r h2
      rw [boolsD_eq h3] at h4
      rw [h4.bls] at hp
      exact ⟨p, bs, rfl, SqL.of hp, out_bl r o'⟩
    · exact o'.elim
  | d :: _ :: _, _, o => exact o.elim
theorem maxI_mem : ∀ (n : Int) (ns : List Int), maxI (n :: ns) ∈ n :: ns ∧ ∀ y ∈ n :: ns, y ≤ maxI (n :: ns)
  | n, [] => ⟨by simp [maxI], by simp [maxI]⟩
  | n, k :: ns => by
    obtain ⟨h1, h2⟩ := maxI_mem k ns
    simp only [maxI]
    refine ⟨?_, fun y hy => ?_⟩
    · by_cases h : n ≤ maxI (k :: ns)
      · rw [Int.max_eq_right h]; exact List.mem_cons_of_mem _ h1
      · rw [Int.max_eq_left (by omega)]; exact List.mem_cons_self
    · rcases List.mem_cons.mp hy with rfl | hy
      · exact Int.le_max_left _ _
      · exact Int.le_trans (h2 y hy) (Int.le_max_right _ _)
theorem minI_mem : ∀ (n : Int) (ns : List Int), minI (n :: ns) ∈ n :: ns ∧ ∀ y ∈ n :: ns, minI (n :: ns) ≤ y
  | n, [] => ⟨by simp [minI], by simp [minI]⟩
  | n, k :: ns => by
    obtain ⟨h1, h2⟩ := minI_mem k ns
    simp only [minI]
    refine ⟨?_, fun y hy => ?_⟩
    · by_cases h : n ≤ minI (k :: ns)
      · rw [Int.min_eq_left h]; exact List.mem_cons_self
      · rw [Int.min_eq_right (by omega)]; exact List.mem_cons_of_mem _ h1
    · rcases List.mem_cons.mp hy with rfl | hy
      · exact Int.min_le_left _ _
      · exact Int.le_trans (Int.min_le_right _ _) (h2 y hy)
theorem max1_ok {K' : PySem.W.Frag} : RLOk A P call .max1 (rMax K') := by
  intro ν H m ds xs Q E rd r o
  match ds, rd, o with
  | [], _, o => exact o.elim
  | [d], rd, o =>
    obtain ⟨x, rfl, h⟩ := one_inv rd
    have o' : Out A (RD A) ν H (match (lstOf m d).bind intsD with | some (n :: ns) => .ok (.int (maxI (n :: ns)), m) | _ => .bad) Q E := o
    split at o'
    · rename_i n ns h1
      obtain ⟨ys, h2, h3⟩ := Option.bind_eq_some_iff.mp h1
      obtain ⟨p, zs, rfl, hp, h4⟩ := lstOf_at h r h2
      rw [intsD_eq h3] at h4
      rw [h4.ints] at hp
      refine ⟨p, n :: ns, rfl, SqL.of hp, by simp, fun k h5 h6 => ?_⟩
      obtain ⟨h7, h8⟩ := maxI_mem n ns
      rw [show k = maxI (n :: ns) from Int.le_antisymm (h8 k h5) (h6 _ h7)]
      exact out_int r o'
    · exact o'.elim
  | d :: _ :: _, _, o => exact o.elim
theorem min1_ok {K' : PySem.W.Frag} : RLOk A P call .min1 (rMin K') := by
  intro ν H m ds xs Q E rd r o
  match ds, rd, o with
  | [], _, o => exact o.elim
  | [d], rd, o =>
    obtain ⟨x, rfl, h⟩ := one_inv rd
    have o' : Out A (RD A) ν H (match (lstOf m d).bind intsD with | some (n :: ns) => .ok (.int (minI (n :: ns)), m) | _ => .bad) Q E := o
    split at o'
    · rename_i n ns h1
      obtain ⟨ys, h2, h3⟩ := Option.bind_eq_some_iff.mp h1
      obtain ⟨p, zs, rfl, hp, h4⟩ := lstOf_at h r h2
      rw [intsD_eq h3] at h4
      rw [h4.ints] at hp
      refine ⟨p, n :: ns, rfl, SqL.of hp, by simp, fun k h5 h6 => ?_⟩
      obtain ⟨h7, h8⟩ := minI_mem n ns
      rw [show k = minI (n :: ns) from Int.le_antisymm (h6 _ h7) (h8 k h5)]
      exact out_int r o'
    · exact o'.elim
  | d :: _ :: _, _, o => exact o.elim
/-- sorted ints: the one list -/
theorem sorted_one {ns ks : List Int} (h1 : ks.Perm ns) (h2 : ks.Pairwise (· ≤ ·)) : ks = ns.mergeSort fun a b => decide (a ≤ b) := by
  have p := List.mergeSort_perm ns (fun a b => decide (a ≤ b))
  have q : (ns.mergeSort fun a b => decide (a ≤ b)).Pairwise (· ≤ ·) := by
    have := List.pairwise_mergeSort (le := fun (a b : Int) => decide (a ≤ b)) (fun a b c h1 h2 => by simp at *; omega) (fun a b => by simp; omega) ns
    exact this.imp (by simp)
  exact List.Perm.eq_of_pairwise (le := (· ≤ ·)) (fun a b _ _ h1 h2 => Int.le_antisymm h1 h2) h2 q (h1.trans p.symm)
/-- the two ints that a value names -/
def kP (H : Hp) : V → Int × Int
  | .ref t => match H t with
    | some (.tup [.int i, .int j]) => (i, j)
    | _ => (0, 0)
  | _ => (0, 0)
theorem pairsD_eq : ∀ {ds : List D} {ps : List (Int × Int)}, pairsD ds = some ps → ds = ps.map pairT
  | [], ps, h => by simp [pairsD] at h; subst h; rfl
  | d :: ds, ps, h => by
    unfold pairsD at h
    split at h
    · cases ‹_ = [] › 
    · rename_i i j r he
      cases he
      rw [Option.map_eq_some_iff] at h
      obtain ⟨l, h1, rfl⟩ := h
      rw [pairsD_eq h1]
      rfl
    · cases h
theorem pairs_at {ps : List (Int × Int)} {xs : List V} (h : RDs A ν H (ps.map pairT) xs) : xs.map (kP H) = ps ∧ ∀ x ∈ xs, ∃ t, x = .ref t ∧ t ∉ ν ∧ H t = some (.tup [.int (kP H x).1, .int (kP H x).2]) := by
  induction ps generalizing xs with
  | nil => rw [RDs.inv0 h]; exact ⟨rfl, fun x hx => by cases hx⟩
  | cons p ps ih =>
    obtain ⟨v, r, rfl, h1, h2⟩ := RDs.inv h
    obtain ⟨i1, i2⟩ := ih h2
    simp only [pairT, RD] at h1
    obtain ⟨a, zs, rfl, ha, hz, h3⟩ := h1
    obtain ⟨v1, r1, rfl, h4, h5⟩ := RDs.inv h3
    obtain ⟨v2, r2, rfl, h6, h7⟩ := RDs.inv h5
    rw [RDs.inv0 h7] at hz
    simp only [RD] at h4 h6
    subst h4 h6
    have e : kP H (.ref a) = p := by simp only [kP, hz]
    refine ⟨by rw [List.map_cons, e, i1], fun x hx => ?_⟩
    rcases List.mem_cons.mp hx with rfl | hx
    · exact ⟨a, rfl, ha, by rw [e]; exact hz⟩
    · exact i2 x hx
theorem lexLe_iff {p q : Int × Int} : lexLe p q = true ↔ SrtO.lexB q p = false := by
  rw [SrtO.lexB_no]
  unfold lexLe
  simp only [Bool.or_eq_true, Bool.and_eq_true, decide_eq_true_eq]
  omega
theorem pairs_sorted {ps : List (Int × Int)} {xs ys : List V} (h : RDs A ν H (ps.map pairT) xs) (h1 : SrtO.Srtd (ltP (kP H)) ys) (h2 : ys.Perm xs) : RDs A ν H ((ps.mergeSort lexLe).map pairT) ys := by
  obtain ⟨e, hx⟩ := pairs_at h
  have e2 : ys.map (kP H) = ps.mergeSort lexLe := by
    have p : (ys.map (kP H)).Perm (ps.mergeSort lexLe) := (h2.map (kP H)).trans (by rw [e]; exact (List.mergeSort_perm ps lexLe).symm)
    have q : (ps.mergeSort lexLe).Pairwise (fun a b => lexLe a b = true) := List.pairwise_mergeSort (fun a b c h1 h2 => by
      unfold lexLe at *
      simp only [Bool.or_eq_true, Bool.and_eq_true, decide_eq_true_eq] at *
      omega) (fun a b => by
      unfold lexLe
      simp only [Bool.or_eq_true, Bool.and_eq_true, decide_eq_true_eq]
      omega) ps
    have q2 : (ys.map (kP H)).Pairwise (fun a b => lexLe a b = true) := by
      rw [List.pairwise_map]
      exact List.Pairwise.imp (fun hab => lexLe_iff.mpr hab) h1
    refine List.Perm.eq_of_pairwise (le := fun a b => lexLe a b = true) (fun a b _ _ h1 h2 => ?_) q2 q p
    unfold lexLe at h1 h2
    simp only [Bool.or_eq_true, Bool.and_eq_true, decide_eq_true_eq] at h1 h2
    exact Prod.ext (by omega) (by omega)
  rw [← e2]
  have hy : ∀ y ∈ ys, ∃ t, y = .ref t ∧ t ∉ ν ∧ H t = some (.tup [.int (kP H y).1, .int (kP H y).2]) := fun y hm => hx y (h2.mem_iff.mp hm)
  clear h h1 h2 e2 hx
  induction ys with
  | nil => exact .nil
  | cons y ys ih =>
    obtain ⟨t, e3, n, ht⟩ := hy y List.mem_cons_self
    refine .cons ?_ (ih fun z hz => hy z (List.mem_cons_of_mem _ hz))
    simp only [pairT, RD]
    exact ⟨t, _, e3, n, ht, .cons (by simp only [RD]) (.cons (by simp only [RD]) .nil)⟩
theorem sorted_ok {fz : Bool} {K' : PySem.W.Frag} : RLOk A P call (.sorted fz) (fun xs H Q => rSortedI K' xs H Q ∨ rSortedPO K' xs H Q ∨ rSortedPT K' xs H Q) := by
  intro ν H m ds xs Q E rd r o
  match ds, rd, o with
  | [], _, o => exact o.elim
  | [d], rd, o =>
    obtain ⟨x, rfl, h⟩ := one_inv rd
    have o' : Out A (RD A) ν H (match (lstOf m d).bind intsD with
      | some ns => mkL fz ((ns.mergeSort fun a b => decide (a ≤ b)).map .int) m
      | none => match (itemsOf m d).bind pairsD with
        | some ps => mkL fz ((ps.mergeSort lexLe).map pairT) m
        | none => .bad) Q E := o
    split at o'
    · rename_i ns h1
      obtain ⟨ys, h2, h3⟩ := Option.bind_eq_some_iff.mp h1
      obtain ⟨p, zs, rfl, hp, h4⟩ := lstOf_at h r h2
      rw [intsD_eq h3] at h4
      rw [h4.ints] at hp
      refine .inl ⟨p, ns, rfl, SqL.of hp, fun ks q h5 h6 h7 => ?_⟩
      rw [sorted_one h5 h6]
      exact (mkL_ok r (RDs.of_ints _) o').2 q h7
    · split at o'
      · rename_i ps h1
        obtain ⟨ys, h2, h3⟩ := Option.bind_eq_some_iff.mp h1
        obtain rfl := pairsD_eq h3
        cases d with
        | tup es =>
          simp only [itemsOf, Option.some.injEq] at h2
          subst h2
          simp only [RD] at h
          obtain ⟨p, zs, rfl, _, hp, h4⟩ := h
          refine .inr (.inr ⟨p, zs, kP H, rfl, hp, fun x hx => ?_, fun ks q h5 h6 h7 => ?_⟩)
          · obtain ⟨t, e, _, z⟩ := (pairs_at h4).2 x hx
            exact ⟨t, e, z⟩
          · exact (mkL_ok r (pairs_sorted h4 h5 h6.perm) o').2 q h7
        | _ =>
          obtain ⟨p, zs, rfl, hp, h4⟩ := lstOf_at h r (by simpa only [itemsOf] using h2)
          refine .inr (.inl ⟨p, zs, kP H, rfl, SqL.of hp, fun x hx => ?_, fun ks q h5 h6 h7 => ?_⟩)
          · obtain ⟨t, e, _, z⟩ := (pairs_at h4).2 x hx
            exact ⟨t, e, z⟩
          · exact (mkL_ok r (pairs_sorted h4 h5 h6.perm) o').2 q h7
      · exact o'.elim
  | d :: _ :: _, _, o => exact o.elim
end
end Rf

/-! R4: the tie of the own syntax to the given one; readings. -/
namespace Rf
open PySem PySem.Spec PyProof.Rows L2

structure Lk where
  fname : List Str
  cname : List Str
  gname : List Str
structure Ct where
  N : List Str
  sc : Scope
  fn : Str → Bool

def notStar : Expr → Bool
  | .Starred _ _ => false
  | _ => true
def notSet : Expr → Bool
  | .Set _ _ _ => false
  | _ => true
def notComp : Expr → Bool
  | .ListComp _ _ _ _ => false
  | .SetComp _ _ _ _ => false
  | .DictComp _ _ _ _ _ => false
  | _ => true
def notTuple : Expr → Bool
  | .Tuple _ _ _ => false
  | _ => true
def notSlice : Expr → Bool
  | .Slice _ _ _ _ => false
  | _ => true
def plainName (x : Str) : Bool := !(x == ("__debug__" : Str)) && !(x == ("__classdict__" : Str)) && decide (x ≠ "__name__")
def visB (c : Ct) (i : Nat) (x : Str) : Bool := decide (c.N[i]? = some x) && (decide (c.sc.names.lookup x = some .local) || decide (c.sc.names.lookup x = some .cell) || decide (c.sc.names.lookup x = some .free)) && plainName x
def locB (c : Ct) (i : Nat) (x : Str) : Bool := decide (c.N[i]? = some x) && (decide (c.sc.names.lookup x = some .local) || (decide (c.sc.names.lookup x = some .cell) && c.fn x))
def glB (c : Ct) (x : Str) : Bool := decide (c.sc.names.lookup x = some .globalImplicit) && plainName x

def binOp : Prim → Option Operator
  | .add _ => some .Add
  | .sub => some .Sub
  | .mul _ => some .Mult
  | .fdiv => some .FloorDiv
  | .mod => some .Mod
  | .pow => some .Pow
  | _ => none
def cmpOp : Prim → Option CmpOp
  | .eq => some .Eq
  | .ne => some .NotEq
  | .lt => some .Lt
  | .le => some .LtE
  | .gt => some .Gt
  | .ge => some .GtE
  | .is_ => some .Is
  | .isnot => some .IsNot
  | .in_ => some .In
  | .notin => some .NotIn
  | _ => none
/-- built-ins by name: functions, types -/
def bfun : Prim → Option Str
  | .len => some "len"
  | .sum => some "sum"
  | .max1 => some "max"
  | .min1 => some "min"
  | .max2 => some "max"
  | .min2 => some "min"
  | .abs => some "abs"
  | .sorted _ => some "sorted"
  | .all => some "all"
  | .any => some "any"
  | _ => none
def btyp : Prim → Option Str
  | .int => some "int"
  | .tupOf => some "tuple"
  | .listOf _ => some "list"
  | _ => none
/-- no super() -/
def baseOk : Expr → Bool
  | .Call (.Name id _) [] [] _ => id != ("super" : Str)
  | _ => true
/-- the parts of an operation, left to right -/
def parts (L : Lk) (c : Ct) (p : Prim) (e : Expr) : Option (List Expr) := match p, e with
  | .tup, .Tuple xs _ _ => some xs
  | .lst _, .List xs _ => some xs
  | .not, .UnaryOp .Not a _ => some [a]
  | .neg, .UnaryOp .USub a _ => some [a]
  | .ix, .Subscript a b _ => if notSlice b then some [a, b] else none
  | .back _, .Subscript a (.Slice none none (some (.UnaryOp .USub (.Constant (.int 1) _ _) _)) _) _ => some [a]
  | .slice false false _, .Subscript a (.Slice none none none _) _ => some [a]
  | .slice true false _, .Subscript a (.Slice (some l) none none _) _ => some [a, l]
  | .slice false true _, .Subscript a (.Slice none (some u) none _) _ => some [a, u]
  | .call f, .Call (.Name x _) (y :: ys) [] _ => if decide (L.fname[f]? = some x) && glB c x then some (y :: ys) else none
  | .call f, .Call (.Name x _) [] [] _ => if decide (L.fname[f]? = some x) && glB c x then some [] else none
  | .new k, .Call (.Name x _) ys [] _ => if decide (L.cname[k]? = some x) && glB c x then some ys else none
  | .attr f, .Attribute a x _ => if decide (x = f) && baseOk a then some [a] else none
  | .isC k, .Call (.Name x _) [y, .Name z _] [] _ => if decide (x = "isinstance") && glB c x && decide (L.cname[k]? = some z) && glB c z then some [y] else none
  | .isI t, .Call (.Name x _) [y, .Name z _] [] _ => if decide (x = "isinstance") && glB c x && decide (z = t) && glB c z && ["int", "bool", "str", "tuple", "list", "dict"].contains t then some [y] else none
  | p, .BinOp a op b _ => if binOp p = some op then some [a, b] else none
  | p, .Compare a [op] [b] _ => if cmpOp p = some op && notSet b then some [a, b] else none
  | p, .Call (.Name x _) (y :: ys) [] _ => if (decide (bfun p = some x) || decide (btyp p = some x)) && glB c x then some (y :: ys) else none
  | _, _ => none

def chkD : D → Expr → Bool
  | .int i, .Constant (.int j) _ _ => decide (i = j)
  | .str s, .Constant (.str t) _ _ => decide (s = t)
  | .bl b, .Constant (.bool b') _ _ => decide (b = b')
  | .non, .Constant .none _ _ => true
  | _, _ => false
mutual
def chkT (c : Ct) : CT → Expr → Bool
  | .name i, .Name x _ => locB c i x
  | .tup ts, .Tuple es _ _ => chkTs c ts es
  | _, _ => false
def chkTs (c : Ct) : List CT → List Expr → Bool
  | [], [] => true
  | t :: ts, e :: es => chkT c t e && chkTs c ts es && notStar e
  | _, _ => false
end
mutual
/-- every name of a target is one of these -/
def ctIn (own : List Nat) : CT → Bool
  | .name i => own.contains i
  | .tup ts => ctIns own ts
def ctIns (own : List Nat) : List CT → Bool
  | [] => true
  | t :: ts => ctIn own t && ctIns own ts
end
def tupT : Expr → Bool
  | .Tuple _ _ _ => true
  | _ => false
def blkCt (c : Ct) (scope : Scope) : Ct := ⟨c.N, relS scope c.sc, fun x => scope.names.lookup x == some .cell⟩
def ownOf (c : Ct) (own : List Nat) : List (Str × Nat) := own.map fun i => (c.N.getD i "", i)
mutual
def chkE (L : Lk) (c : Ct) : CE → Expr → Bool
  | .var i, .Name x _ => visB c i x
  | .const d, e => chkD d e
  | .glob i, .Name x _ => decide (L.gname[i]? = some x) && glB c x
  | .op p es, e => match parts L c p e with
    | some xs => chkEs L c es xs
    | none => false
  | .andE a b, .BoolOp .And (x :: y :: rest) pos => chkE L c a x && (match rest with
    | [] => chkE L c b y
    | _ :: _ => chkE L c b (.BoolOp .And (y :: rest) pos))
  | .orE a b, .BoolOp .Or (x :: y :: rest) pos => chkE L c a x && (match rest with
    | [] => chkE L c b y
    | _ :: _ => chkE L c b (.BoolOp .Or (y :: rest) pos))
  | .ife k a b, .IfExp t x y _ => chkE L c k t && chkE L c a x && chkE L c b y
  | .chain p q a b d, .Compare x [o1, o2] [y, z] _ => decide (cmpOp p = some o1) && decide (cmpOp q = some o2) && notSet z && chkE L c a x && chkE L c b y && chkE L c d z
  | .lc _ own t it ifs e, .ListComp elt [⟨tg, iter, ifs', k⟩] scope _ => decide (k = 0) && blkC c.N c.sc scope (ownOf c own) && chkT (blkCt c scope) t tg && ctIn own t && chkI L c it tg iter && chkEs L (blkCt c scope) ifs ifs' && decide (ifs'.length ≤ 1) && chkE L (blkCt c scope) e elt && notSet iter
  | .slc _ a b d, .Subscript x (.Slice (some y) (some z) none _) _ => chkE L c a x && chkE L c b y && chkE L c d z
  | .meth k n o es, .Call (.Attribute oe f ap) xs [] cp => decide (f = n) && (ap.endLine == cp.line) && baseOk oe && chkE L c o oe && chkEs L c es xs && ((decide (k = 1) && decide (n = "append") && decide (xs.length = 1)) || (decide (k = 2) && decide (xs.length < 30)))
  | _, _ => false
def chkEs (L : Lk) (c : Ct) : CEs → List Expr → Bool
  | .nil, [] => true
  | .cons e es, x :: xs => chkE L c e x && chkEs L c es xs && notStar x
  | _, _ => false
def chkI (L : Lk) (c : Ct) : CI → Expr → Expr → Bool
  | .over e, _, x => chkE L c e x
  | .range es, _, .Call (.Name x _) ys [] _ => decide (x = "range") && glB c x && chkEs L c es ys && (ys.length == 1 || ys.length == 2)
  | .zip a b, tg, .Call (.Name x _) [y, z] [] _ => tupT tg && decide (x = "zip") && glB c x && chkE L c a y && chkE L c b z && notStar y && notStar z
  | .enum a, tg, .Call (.Name x _) [y] [] _ => tupT tg && decide (x = "enumerate") && glB c x && chkE L c a y && notStar y
  | _, _, _ => false
end
mutual
def chkG (L : Lk) (c : Ct) : GT → Expr → Bool
  | .name i, .Name x _ => locB c i x
  | .ix o i, .Subscript oe ie _ => chkE L c o oe && chkE L c i ie && notSlice ie
  | .attr o f, .Attribute oe x _ => chkE L c o oe && decide (x = f)
  | .tup ts, .Tuple es _ _ => chkGs L c ts es
  | _, _ => false
def chkGs (L : Lk) (c : Ct) : List GT → List Expr → Bool
  | [], [] => true
  | t :: ts, e :: es => chkG L c t e && chkGs L c ts es && notStar e
  | _, _ => false
end
/-- the names of stores that are exchanged, as the compiler does -/
def swapNames (sc : Scope) (ts vs : List Expr) : Option (Option (List Str)) :=
  if !(ts.length == 2 || ts.length == 3) || vs.length != ts.length then some none
  else if vs.any (fun | .Starred .. => true | _ => false) then some none
  else
    let line := (ts.head?.map (·.pos.line)).getD 0
    let names := ts.filterMap fun
      | .Name id pos => if sc.names.lookup id == some .local && pos.line == line then some id else none
      | _ => none
    if names.length != ts.length || names.eraseDups.length != names.length then some none
    else if vs.all (foldedForSure 8) then some none
    else if vs.all (constantsAlone 8) then none
    else some (some names)
/-- a list that is stored as it is built: name = [..] -/
def lcSwap (c : Ct) (tg v : Expr) : Bool := match tg, v with
  | .Name y py, .ListComp _ _ scope vp => decide (c.sc.names.lookup y = some .local) && (py.line == vp.line) && !(scope.names.any fun (n, k) => n == y && (k == .local || k == .cell))
  | _, _ => false
/-- a plain assignment's stores are not exchanged -/
def asgB (c : Ct) (tg v : Expr) : Bool := match v with
  | .ListComp _ _ _ _ => !lcSwap c tg v
  | .SetComp _ _ _ _ => false
  | .DictComp _ _ _ _ _ => false
  | .Tuple vs _ _ => match tg with
    | .Tuple ts _ _ => decide (swapNames c.sc ts vs = some none)
    | .List _ _ => false
    | _ => true
  | _ => true
def augP : Prim → Bool
  | .add _ => true
  | .sub => true
  | .fdiv => true
  | .mod => true
  | _ => false
def isLc : CE → Bool
  | .lc _ _ _ _ _ _ => true
  | _ => false
def nameAt (c : Ct) (is : List Nat) : List (Option Str) := is.map fun i => c.N[i]?
mutual
def chkS (L : Lk) (c : Ct) : CS → Stmt → Bool
  | .expr e, .Expr x _ => chkE L c e x && notComp x
  | .assign t e, .Assign [tg] x _ => chkT c t tg && chkE L c e x && (asgB c tg x || (lcSwap c tg x && isLc e))
  | .par is es, .Assign [.Tuple ts _ _] (.Tuple vs _ _) _ => chkEs L c es vs && (match swapNames c.sc ts vs with
    | some (some ns) => decide (is.map (fun i => c.N[i]?) = ns.map some) && decide (ts.length = ns.length) && (ts.zip ns).all (fun p => match p.1 with
      | .Name x _ => decide (x = p.2) && decide (c.sc.names.lookup x = some .local)
      | _ => false) && decide is.Nodup
    | _ => false)
  | .aug i p e, .AugAssign (.Name x _) op v _ => locB c i x && decide (binOp p = some op) && augP p && chkE L c e v
  | .setIx o i e, .Assign [.Subscript oe ie _] v _ => chkE L c e v && chkE L c o oe && chkE L c i ie && notComp v && notSlice ie
  | .setAttr o f e, .Assign [.Attribute oe x _] v _ => chkE L c e v && chkE L c o oe && decide (x = f) && notComp v
  | .asgG t e, .Assign [tg] x _ => chkG L c t tg && chkE L c e x && asgB c tg x && tupT tg
  | .ret e, .Return (some x) _ => chkE L c e x
  | .retN, .Return none _ => true
  | .ifs k a b, .If t x y _ => chkE L c k t && chkSs L c a x && chkSs L c b y
  | .whil k b, .While t x [] _ => chkE L c k t && chkSs L c b x
  | .fors t it b, .For tg iter x [] _ => chkT c t tg && chkI L c it tg iter && chkSs L c b x && notSet iter
  | .pass, .Pass _ => true
  | .brk, .Break _ => true
  | .cont, .Continue _ => true
  | .bad, _ => true
  | _, _ => false
def chkSs (L : Lk) (c : Ct) : CSs → List Stmt → Bool
  | .nil, [] => true
  | .cons s ss, x :: xs => chkS L c s x && chkSs L c ss xs
  | _, _ => false
end

/-! ### readings -/
abbrev WS (W : WX) (σ : L2.St) : XK := fun cls d H => W cls d σ H
def AE (A : Ad) (W : WX) (f : Env → Mem → R (D × Mem)) : TE := fun σ H Q => ∃ ν ρ m, RE A ν H ρ σ ∧ RM A ν H m ∧ Out A (RD A) ν H (f ρ m) Q (WS W σ)
def AA (A : Ad) (W : WX) (f : Env → Mem → R (List D × Mem)) : TA := fun σ H Q => ∃ ν ρ m, RE A ν H ρ σ ∧ RM A ν H m ∧ Out A (RDs A) ν H (f ρ m) Q (WS W σ)
def AT (A : Ad) (W : WX) (f : Env → Mem → R (Bool × Mem)) : TT := fun σ H Q => ∃ ν ρ m, RE A ν H ρ σ ∧ RM A ν H m ∧ Out A (fun _ _ b c => c = b) ν H (f ρ m) Q (WS W σ)
theorem _root_.L2.PE.imp {X : Cx} {e : Expr} {t t' : TE} (h : PE X e t) (k : ∀ σ H Q, t' σ H Q → t σ H Q) : PE X e t' := ⟨fun pins s σ H Q I q => h.run pins s σ H Q I (k _ _ _ q)⟩
theorem _root_.L2.PT.imp {X : Cx} {e : Expr} {t t' : TT} (h : PT X e t) (k : ∀ σ H Q, t' σ H Q → t σ H Q) : PT X e t' := ⟨fun pins s σ H Q I q => h.run pins s σ H Q I (k _ _ _ q)⟩
theorem _root_.L2.PA.imp {X : Cx} {e : List Expr} {t t' : TA} (h : PA X e t) (k : ∀ σ H Q, t' σ H Q → t σ H Q) : PA X e t' := ⟨fun pos pins s σ H Q I q => h.run pos pins s σ H Q I (k _ _ _ q)⟩
theorem _root_.L2.PS.imp {X : Cx} {e : Stmt} {t t' : TS} (h : PS X e t) (k : ∀ D σ H, t' D σ H → t D σ H) : PS X e t' := ⟨fun pins s σ H Q I q => h.run pins s σ H Q I (k _ _ _ q)⟩
theorem _root_.L2.PSs.imp {X : Cx} {e : List Stmt} {t t' : TS} (h : PSs X e t) (k : ∀ D σ H, t' D σ H → t D σ H) : PSs X e t' := ⟨fun pins s σ H Q I q => h.run pins s σ H Q I (k _ _ _ q)⟩

/-- a value and as a test -/
structure Both (X : Cx) (A : Ad) (W : WX) (e : Expr) (f : Env → Mem → R (D × Mem)) : Prop where
  pe : PE X e (AE A W f)
  pt : PT X e (AT A W fun ρ m => tst (f ρ m))

/-! ### by-rfl side conditions, for any expression of ours -/
section
variable {env : Env} {e : Expr} {es : List Expr}
end
theorem star_of {e : Expr} {es : List Expr} {env : PySem.Env} (h : notStar e = true) : starEach (e :: es) env = (false, eval e env) :: starEach es env := by
  cases e <;> first | rfl | (simp [notStar] at h)
theorem stars_of {pos : Pos} {env : PySem.Env} : ∀ {es : List Expr}, es.all notStar = true → (backTo pos (starEach es env)).any (·.1) = false
  | [], _ => rfl
  | e :: es, h => by
    rw [List.all_cons, Bool.and_eq_true] at h
    rw [star_of h.1]
    show (false || (backTo pos (starEach es env)).any (·.1)) = false
    rw [stars_of h.2]; rfl
def plainTest : Expr → Bool
  | .UnaryOp .Not _ _ => false
  | .BoolOp _ _ _ => false
  | .IfExp _ _ _ _ => false
  | .Compare _ _ _ _ => false
  | _ => true
theorem isTrue_plain_of {e : Expr} {env : PySem.Env} (h : plainTest e = true) :
    ∀ whole, isTrue e env whole = (do let v ← whole; standAt e.pos; holding [v] (truthy v)) := by
  intro whole
  cases e <;> first | rfl | (simp [plainTest] at h; done) | skip
  rename_i op x pos
  cases op <;> first | rfl | (simp [plainTest] at h)
theorem notSet_mark {op : CmpOp} {b : Expr} (h : notSet b = true) : behindInMarks op b = false := by
  cases b <;> first | rfl | (simp [notSet] at h)
theorem notSet_fold {e : Expr} {env : PySem.Env} (h : notSet e = true) : ∀ x, foldedSetIterable e env x = pure x := by
  intro x
  cases e <;> first | rfl | (simp [notSet] at h)
theorem base_of {o : Expr} {f : Str} {env : PySem.Env} (h : baseOk o = true) : attributeBase o f env (eval o env) = eval o env := by
  unfold baseOk at h
  split at h
  · exact L2.abase_call h
  · rename_i hn
    unfold attributeBase
    split
    · exact (hn _ _ _ rfl).elim
    · rfl
theorem plainIx_of {b : Expr} (h : notSlice b = true) : PlainIx b := by
  intro o i
  cases b <;> first | rfl | (simp [notSlice] at h)
theorem swaps_of {v : Expr} {t : Option Expr} {l : Nat} {env : PySem.Env} (h : notComp v = true) : swapsWith v t l env = pure false := by
  cases v <;> first | rfl | (simp [notComp] at h)
end Rf

/-! C1: own classes with slots: facts, rules by the object's own class. -/
namespace Rf
open PySem PySem.Spec PyProof.Rows L2
/-- f is a property of the class at C, its getter at g -/
def PropF (K : PySem.W.Frag) (C : Addr) (f : Str) (g : Addr) : Prop := ∃ p, PySem.W.findIn K (.ref C) f = some (some (.ref p)) ∧ PySem.W.specialIn K (.ref p) "__get__" = some (some (.builtin "property.__get__")) ∧
  PySem.W.takesIn K (.ref p) = some true ∧ ∃ rest, PySem.W.recIn K p "property" = some (.ref g :: rest)
def tyNames : List String := ["int", "bool", "str", "tuple", "list", "dict", "NoneType"]
/-- what is known of the class c of ours -/
structure CF (K : PySem.W.Frag) (A : Ad) (P : Prg) (c : Nat) (cl : Cl) : Prop where
  scls : SlX.SCls K (A.ca c)
  isi : SlX.SIsi K (A.ca c)
  slot : ∀ i f, cl.fields[i]? = some f → ∃ p, SlX.Slot1 K (A.ca c) f p i
  meth : ∀ n f, cl.meths.lookup n = some f → Meth K (A.ca c) n (A.fa f)
  prop : ∀ n f, cl.props.lookup n = some f → PropF K (A.ca c) n (A.fa f)
  made : Mk K (A.ca c) (A.fa cl.init)
  nf : ∀ c' cl', P.cls[c']? = some cl' → PySem.W.notFirst K (A.ca c) (.ref (A.ca c')) = true
  nfT : ∀ T ∈ tyNames, PySem.W.notFirst K (A.ca c) (.type T) = true
  isC : ∀ c' cl', P.cls[c']? = some cl' → PySem.W.kitOne K (.ref (A.ca c')) (.ref (A.ca c)) = some (decide (c' = c))
  isT : ∀ T ∈ tyNames, PySem.W.kitOne K (.type T) (.ref (A.ca c)) = some false
  notT : ∀ T ∈ tyNames, PySem.W.kitOne K (.ref (A.ca c)) (.type T) = some false

section
variable {X : Cx} {e o : Expr} {es : List Expr} {f m : Str} {pos apos : Pos} {ta : TE} {t : TA} {W : WX}
/-- nothing is let out -/
abbrev EN : XK := fun _ _ _ => False
/-- e.f: a slot, or a property -/
def rAttr (X : Cx) (f : Str) : V → Hp → VK → Prop := fun x H1 Q => ∃ a C dx vs, x = .ref a ∧ SlX.Slt H1 a C dx vs ∧ SlX.SCls X.K C ∧
  ((∃ p i v, SlX.Slot1 X.K C f p i ∧ vs[i]? = some (some v) ∧ Q v H1) ∨ ∃ g n sp, PropF X.K C f g ∧ FnR X.prog X.w X.K X.mg X.base (L2.CX X.prog X.w) n g sp ∧ Room (n + 1) X.A ∧ sp [.ref a] H1 Q EN)
def tAttr (X : Cx) (f : Str) (ta : TE) : TE := tUn (rAttr X f) ta
theorem pe_attrX (he : PE X e ta) (hb : attributeBase e f X.env (eval e X.env) = eval e X.env) : PE X (.Attribute e f pos) (tAttr X f ta) := by
  refine ⟨fun pins s σ H Q I h => ?_⟩
  refine attr_of hb (thn (he.run pins s σ H _ I h) fun w s1 ⟨x, H1, I1, rx, a, C, dx, vs, ex, hs, c, q⟩ => ?_)
  subst ex
  obtain rfl : w = Value.ref a := rx
  rcases q with ⟨p, i, v, t, l, q⟩ | ⟨g, n, sp, ⟨p, h1, h2, h3, h4⟩, F, hr, q⟩
  · exact SlX.getslot_ok I1 hs c t l fun u' s2 I2 ru => ⟨v, H1, I2, ru, q⟩
  · exact SlX.getprop_sl I1 hs c h1 h2 h3 h4 F hr (fun _ _ _ _ x => by
      obtain ⟨_, _, _, _, _, _, _, _, _, _, _, _, z⟩ := x
      exact z.elim) q
/-- o.m(..), by the object's class -/
def tMethX (X : Cx) (W : WX) (m : Str) (ta : TE) (t : TA) : TE := fun σ H Q => ta σ H fun x H1 => ∃ a C dx vs g n sp, x = .ref a ∧ SlX.Slt H1 a C dx vs ∧ SlX.SCls X.K C ∧ Meth X.K C m g ∧
  FnR X.prog X.w X.K X.mg X.base (L2.CX X.prog X.w) n g sp ∧ Room n X.A ∧ t σ H1 fun ws H2 => sp (x :: ws) H2 Q (WS W σ)
theorem run_X {n : Nat} {g : Addr} {sp : Sp} {pins : List (Addr × Obj)} {s : Shared} {σ : L2.St} {H : Hp} {Q : VK} {us : List Value} {vs : List V} (tk : Takes X W) (F : FnR X.prog X.w X.K X.mg X.base (L2.CX X.prog X.w) n g sp) (hr : Room n X.A) (I : Inv X pins σ H s) (r : Vals vs us) (h : sp vs H Q (WS W σ)) :
    codeAny (model X.prog X.w) X.A (.call (.ref g) ⟨us, []⟩) (fun r s' => match r with | .ok (.ret v) => EP X pins σ Q v s' | .ok _ => False | .error e => X.xe e s') s := by
  refine codeAny_mono (F X.A X.stack s H us vs Q _ hr I.env0 r h) fun r s' hq => ?_
  cases r with
  | error e => exact passAt tk σ pins H s e s' I hq
  | ok fl =>
    cases fl with
    | ret u => exact I.after hq
    | next => exact False.elim hq
    | brk => exact False.elim hq
    | cont => exact False.elim hq
theorem form_of {es : List Expr} {env : PySem.Env} {pos : Pos} (hs : es.all notStar = true) (hl : es.length < 30) : methodCallForm (es.length + ([] : List Keyword).length) (backTo pos (starEach es env)) (backToKw pos (keywordEach [] env)) = true := by
  have h1 : (backTo pos (starEach es env)).all (!·.1) = true := by
    have := stars_of (env := env) (pos := pos) hs
    rw [List.any_eq_false] at this
    rw [List.all_eq_true]
    intro x hx
    simpa using this x hx
  have e2 : backToKw pos (keywordEach [] env) = [] := rfl
  unfold methodCallForm
  rw [h1, e2]
  simp
  omega
theorem call_tree {o : Expr} {m : Str} {apos pos : Pos} {env : PySem.Env} {n : Nat} {args : List (Bool × Sem Value)} {kws : List (Option Str × Sem Value)} (hf : methodCallForm n args kws = true) (hl : (apos.endLine == pos.line) = true) (ov : Value) :
    methodCall o m apos pos env ov n args kws = (do
      let (f, first) ← holding [ov] (getMethod ov m (do return (← importBound o env).getD true))
      callWith pos f first args kws) := by
  unfold methodCall
  have h2 : methodCallPos true o env apos pos = pure pos := by
    unfold methodCallPos
    rw [hl]
    rfl
  rw [hf, h2]
  rfl
theorem pe_methX (tk : Takes X W) (ho : PE X o ta) (ha : PA X (e :: es) t) (hb : attributeBase o m X.env (eval o X.env) = eval o X.env) (hs : (e :: es).all notStar = true) (hn : (e :: es).length < 30) (hl : (apos.endLine == pos.line) = true) : PE X (.Call (.Attribute o m apos) (e :: es) [] pos) (tMethX X W m ta t) := by
  refine ⟨fun pins s σ H Q I h => ?_⟩
  refine PySem.W.methodCall_KW (thn (ho.run pins s σ H _ I h) fun u s1 ⟨x, H1, I1, rx, a, C, dx, vs, g, n, sp, ex, hsl, c, hm, F, hr, q⟩ => ?_) (mcall_of hb fun ov => call_tree (form_of hs hn) hl ov)
  subst ex
  obtain rfl : u = Value.ref a := rx
  refine SlX.getmethsl_ok I1 hsl c hm ?_
  rw [List.all_cons, Bool.and_eq_true] at hs
  refine PySem.W.callWith_K (first := [.ref a]) (h₀ := X.base) I1.ok.mod.kin hm.kp (thn (ha.run pos pins s1 σ H1 _ I1 q) fun us s2 ⟨ws, H2, I2, r, q2⟩ => ⟨I2.kIn, ?_⟩) (star_of hs.1) (stars_of hs.2)
  exact wpAny_call (run_X (us := .ref a :: us) (vs := .ref a :: ws) tk F hr I2 (.cons rfl r) q2)
theorem pe_methX0 (tk : Takes X W) (ho : PE X o ta) (hb : attributeBase o m X.env (eval o X.env) = eval o X.env) (hl : (apos.endLine == pos.line) = true) : PE X (.Call (.Attribute o m apos) [] [] pos) (tMethX X W m ta tNil) := by
  refine ⟨fun pins s σ H Q I h => ?_⟩
  refine PySem.W.methodCall_KW (thn (ho.run pins s σ H _ I h) fun u s1 ⟨x, H1, I1, rx, a, C, dx, vs, g, n, sp, ex, hsl, c, hm, F, hr, q⟩ => ?_) (mcall_of hb fun ov => call_tree (form_of (es := []) rfl (by decide)) hl ov)
  subst ex
  obtain rfl : u = Value.ref a := rx
  refine SlX.getmethsl_ok I1 hsl c hm ?_
  exact PySem.W.callWith_K0 (first := [.ref a]) I1.kIn hm.kp (wpAny_call (run_X (us := [.ref a]) (vs := [.ref a]) tk F hr I1 (.cons rfl .nil) q))
/-- C(..), what is raised wished for at the slots -/
def tMakeX (C : Addr) (W : WX) (sp : Sp) (t : TA) : TE := fun σ H Q => t σ H fun vs H1 => ∀ x dx, H1 x = none → H1 dx = none → dx ≠ x →
  sp (V.ref x :: vs) (upd (upd H1 dx (.own x)) x (.ins C dx [])) (fun v H2 => v = .non ∧ Q (.ref x) H2) (WS W σ)
theorem run_makeX {k : Nat} {g C : Addr} {sp : Sp} {pins : List (Addr × Obj)} {σ : L2.St} {H : Hp} {s : Shared} {Q : VK} {us : List Value} {vs : List V} (tk : Takes X W) (M : Mk X.K C g) (F : FnR X.prog X.w X.K X.mg X.base (L2.CX X.prog X.w) k g sp) (hr : Room (k + 1) X.A) (I : Inv X pins σ H s) (r : Vals vs us)
    (h : ∀ x dx, H x = none → H dx = none → dx ≠ x → sp (V.ref x :: vs) (upd (upd H dx (.own x)) x (.ins C dx [])) (fun v H2 => v = .non ∧ Q (.ref x) H2) (WS W σ)) :
    wpAny (model X.prog X.w) X.A (call (.ref C) us) (EP X pins σ Q) X.xe s := by
  have hq := h (s.heap.objs.size + 1) s.heap.objs.size (I.hok.fresh (Nat.le_succ _)) (I.hok.fresh (Nat.le_refl _)) (Nat.ne_of_lt (Nat.lt_succ_self _))
  have I2 := Inv.made (C := C) I
  have r2 : Vals (V.ref (s.heap.objs.size + 1) :: vs) (Value.ref (s.heap.objs.size + 1) :: us) := .cons rfl r
  refine wpAny_call (make_map (f := g) I.kIn M.makes M.init (beq_iff_eq.mp M.fn) (codeAny_mono (F _ X.stack _ _ (Value.ref (s.heap.objs.size + 1) :: us) _ _ _ (hr.make C us []) (I2.env0.make C us []) r2 hq) fun r s' hq' => ?_))
  cases r with
  | error e => exact passAt tk σ pins _ _ e s' I2 hq'
  | ok fl =>
    cases fl with
    | ret u =>
      obtain ⟨v, H', I3, rv, ev, q3⟩ := I2.after hq'
      subst ev
      exact ⟨rv, ⟨V.ref (s.heap.objs.size + 1), H', I3, rfl, q3⟩⟩
    | next => exact False.elim hq'
    | brk => exact False.elim hq'
    | cont => exact False.elim hq'
theorem pe_makeX {k : Nat} {g C : Addr} {sp : Sp} {x : Str} {p : Pos} (tk : Takes X W) (M : Mk X.K C g) (F : FnR X.prog X.w X.K X.mg X.base (L2.CX X.prog X.w) k g sp) (hr : Room (k + 1) X.A) (hg : Gl X x) (hm : X.mg x = some (.ref C)) (ha : PA X (e :: es) t) (hdb : (x == ("__debug__" : Str)) = false) (hs : (e :: es).all notStar = true) :
    PE X (.Call (.Name x p) (e :: es) [] pos) (tMakeX C W sp t) := by
  rw [List.all_cons, Bool.and_eq_true] at hs
  refine ⟨fun pins s σ H Q I h => ?_⟩
  refine wpAny_Call_Name_kw (ld_glob I hg hm ?_ hdb)
  refine PySem.W.callWith_K (h₀ := X.base) I.ok.mod.kin M.kp (thn (ha.run pos pins s σ H _ I h) fun us s1 ⟨vs, H1, I1, r, q⟩ => ⟨I1.kIn, ?_⟩) (star_of hs.1) (stars_of hs.2)
  exact run_makeX tk M F hr I1 r q
theorem pe_makeX0 {k : Nat} {g C : Addr} {sp : Sp} {x : Str} {p : Pos} (tk : Takes X W) (M : Mk X.K C g) (F : FnR X.prog X.w X.K X.mg X.base (L2.CX X.prog X.w) k g sp) (hr : Room (k + 1) X.A) (hg : Gl X x) (hm : X.mg x = some (.ref C)) (hdb : (x == ("__debug__" : Str)) = false) :
    PE X (.Call (.Name x p) [] [] pos) (tMakeX C W sp tNil) := by
  refine ⟨fun pins s σ H Q I h => ?_⟩
  refine wpAny_Call_Name_kw (ld_glob I hg hm ?_ hdb)
  exact PySem.W.callWith_K0 I.kIn M.kp (run_makeX (us := []) tk M F hr I .nil h)
/-- f(), an own def -/
def tCallX (W : WX) (sp : Sp) (t : TA) : TE := fun σ H Q => t σ H fun vs H1 => sp vs H1 Q (WS W σ)
theorem pe_callX0 {k : Nat} {g : Addr} {sp : Sp} {x : Str} {p : Pos} (tk : Takes X W) (F : FnR X.prog X.w X.K X.mg X.base (L2.CX X.prog X.w) k g sp) (hr : Room k X.A) (hg : Gl X x) (hm : X.mg x = some (.ref g)) (hk : PySem.W.keepIn X.K (.ref g) = true) (hdb : (x == ("__debug__" : Str)) = false) :
    PE X (.Call (.Name x p) [] [] pos) (tCallX W sp tNil) := by
  refine ⟨fun pins s σ H Q I h => ?_⟩
  refine wpAny_Call_Name_kw (ld_glob I hg hm ?_ hdb)
  exact PySem.W.callWith_K0 I.kIn hk (wpAny_call (run_X (us := []) (vs := []) tk F hr I .nil h))
/-- x == y, x an instance: by its class; y an instance, or of a built-in type -/
def rOwnX (X : Cx) (nm : Str) : R2 := fun x y H Q => ∃ a C dx vs g n sp, x = .ref a ∧ SlX.Slt H a C dx vs ∧ PySem.W.findIn X.K (.ref C) nm = some (some (.ref g)) ∧ PySem.W.isFn X.K (.ref g) = true ∧
  FnR X.prog X.w X.K X.mg X.base (L2.CX X.prog X.w) n g sp ∧ Room n X.A ∧ ((∃ b C' dy ws, y = .ref b ∧ SlX.Slt H b C' dy ws ∧ PySem.W.notFirst X.K C (.ref C') = true) ∨ ∃ t, TyX X.K H y t ∧ PySem.W.notFirst X.K C t = true) ∧ sp [x, y] H Q EN
theorem op_ownX {op : CmpOp} (hop : ∀ a b, compareOp op a b = richCompare op a b) : OpR X (compareOp op) (rOwnX X (cmpInfo op).2.1) := by
  intro pins s σ H x y v u Q I rx ry h
  obtain ⟨a, C, dx, vs, g, n, sp, rfl, ha, hs, hf, F, hr, hy, q⟩ := h
  cases (show v = Value.ref a from rx)
  obtain ⟨sl, od, _, J, _⟩ := SlX.slt_inst I ha
  obtain ⟨m, hF⟩ := I.fr
  rw [hop]
  have fin : wpAny (model X.prog X.w) X.A (call (.ref g) [.ref a, u]) (PySem.W.CmpBack (EP X pins σ Q)) X.xe s := by
    refine wpAny_call (codeAny_mono (F X.A X.stack s H [.ref a, u] [.ref a, y] Q EN hr I.env0 (.cons rfl (.cons ry .nil)) q) fun r s' hq => ?_)
    cases r with
    | error e =>
      obtain ⟨_, _, _, _, _, _, _, _, _, _, _, _, z⟩ := (show L2.CX X.prog X.w X.stack H s EN e s' from hq)
      exact z.elim
    | ok fl =>
      cases fl with
      | ret w' =>
        obtain ⟨z', H', I', rz, qz⟩ := I.after hq
        exact SlX.cmpback rz ⟨z', H', I', rz, qz⟩
      | next => exact False.elim hq
      | brk => exact False.elim hq
      | cont => exact False.elim hq
  rcases hy with ⟨b, C', dy, ws, rfl, hb, hn⟩ | ⟨t, ht, hn⟩
  · cases (show u = Value.ref b from ry)
    obtain ⟨sl', od', _, J', _⟩ := SlX.slt_inst I hb
    exact PySem.W.cmp_K (op := op) (tb := .ref C') hr.units0 hF I.ok.mod.kin J J'.type hn hs hf fin
  · obtain ⟨Z, kz, hz, _⟩ := kit_of I ry ht
    exact PySem.W.cmp_K (op := op) (tb := t) hr.units0 hF I.ok.mod.kin J (kz.ty _ _ I.kIn hz) hn hs hf fin
end
end Rf

/-! R5: expressions: what the semantics says is what the given program does. -/
namespace Rf
open PySem PySem.Spec PyProof.Rows L2

/-- a def's promise -/
def spC (A : Ad) (n : Nat) (f : List D → Mem → R (D × Mem)) : Sp := fun vs H Q E => ∃ ν ds m, vs.length = n ∧ RDs A ν H ds vs ∧ RM A ν H m ∧ Out A (RD A) ν H (f ds m) Q E
def bnames : List Str := ["len", "sum", "max", "min", "abs", "sorted", "all", "any", "int", "tuple", "list", "isinstance", "range", "zip", "enumerate", "bool", "str", "dict"]

/-- .. by its place -/
def spR (A : Ad) (call : Nat → List D → Mem → R (D × Mem)) (f : Nat) : Sp := fun vs H Q E => ∃ ν ds m, RDs A ν H ds vs ∧ RM A ν H m ∧ Out A (RD A) ν H (call f ds m) Q E
structure Lnk (L : Lk) (A : Ad) (P : Prg) (call : Nat → List D → Mem → R (D × Mem)) (lev : Nat) (Pr : Program) (w : World) (K : PySem.W.Frag) (mg : Str → Option Value) (base : Heap) : Prop where
  hK : A.K = K
  funs : ∀ (f : Nat) (x : Str), L.fname[f]? = some x → ∃ fd ps n, mg x = some (.ref (A.fa f)) ∧ PySem.W.keepIn K (.ref (A.fa f)) = true ∧ FnOk Pr w K mg base (L2.CX Pr w) lev (A.fa f) fd ps (spC A n (call f)) ∧ Binds K fd ps [] ∧ ∀ ds m, ds.length ≠ n → call f ds m = .bad
  consts : ∀ (i : Nat) (x : Str), L.gname[i]? = some x → ∃ d v u, P.consts[i]? = some d ∧ mg x = some u ∧ RelV v u ∧ ∀ ν H, RD A ν H d v
  free : ∀ x ∈ bnames, mg x = none
  clss : ∀ c cl, P.cls[c]? = some cl → CF K A P c cl
  cnames : ∀ (c : Nat) (x : Str), L.cname[c]? = some x → (∃ cl, P.cls[c]? = some cl) ∧ mg x = some (.ref (A.ca c))
  fnr : ∀ f, FnR Pr w K mg base (L2.CX Pr w) lev (A.fa f) (spR A call f)

structure Cok (c : Ct) (lev : Nat) (X : Cx) (W : WX) : Prop where
  N : X.N = c.N
  nd : c.N.Nodup
  sc : X.env.scope = c.sc
  kind : c.sc.kind = .function
  fn : X.fn = c.fn
  calm : X.calm = true
  room2 : Room (lev + 2) X.A
  tk : Takes X W

theorem Cok.room {c : Ct} {lev : Nat} {X : Cx} {W : WX} (k : Cok c lev X W) : Room lev X.A := k.room2.mono (by omega)
theorem Cok.room1 {c : Ct} {lev : Nat} {X : Cx} {W : WX} (k : Cok c lev X W) : Room (lev + 1) X.A := k.room2.mono (by omega)
section
variable {L : Lk} {A : Ad} {P : Prg} {call : Nat → List D → Mem → R (D × Mem)} {lev : Nat} {c : Ct} {X : Cx} {W : WX}

/-! ### two parts, one part -/
theorem semEs1 (a : CE) (ρ : Rf.Env) (m : Mem) (p : Prim) : ((semEs P call (.cons a .nil) ρ m).bind fun r => prim P call p r.1 r.2) = (semE P call a ρ m).bind fun r => prim P call p [r.1] r.2 := by
  simp only [semEs]
  cases semE P call a ρ m <;> rfl
theorem semEs2 (a b : CE) (ρ : Rf.Env) (m : Mem) (p : Prim) : ((semEs P call (.cons a (.cons b .nil)) ρ m).bind fun r => prim P call p r.1 r.2) =
    (semE P call a ρ m).bind fun r => (semE P call b ρ r.2).bind fun r2 => prim P call p [r.1, r2.1] r2.2 := by
  simp only [semEs]
  cases h : semE P call a ρ m with
  | ok x =>
    simp only [R.bind]
    cases semE P call b ρ x.2 <;> rfl
  | _ => rfl
theorem AE.congr {f g : Rf.Env → Mem → R (D × Mem)} (h : ∀ ρ m, f ρ m = g ρ m) {σ : L2.St} {H : Hp} {Q : VK} (q : AE A W f σ H Q) : AE A W g σ H Q := by
  obtain ⟨ν, ρ, m, re, rm, o⟩ := q
  exact ⟨ν, ρ, m, re, rm, by rw [← h]; exact o⟩
theorem op2R {p : Prim} {r : R2} {fa fb : Rf.Env → Mem → R (D × Mem)} (hp : R2Ok A P call p r) (σ : L2.St) (H : Hp) (Q : VK)
    (q : AE A W (fun ρ m => (fa ρ m).bind fun r => (fb ρ r.2).bind fun r2 => prim P call p [r.1, r2.1] r2.2) σ H Q) : tOp r (AE A W fa) (AE A W fb) σ H Q := by
  obtain ⟨ν, ρ, m, re, rm, o⟩ := q
  exact ⟨ν, ρ, m, re, rm, o.split (Rel1 := RD A) fun d m1 v ν1 H1 _ e1 rd1 rm1 o1 => ⟨ν1, ρ, m1, re.mono e1, rm1, o1.split (Rel1 := RD A) fun d2 m2 v2 ν2 H2 _ e2 rd2 rm2 o2 =>
    hp ν2 H2 m2 d d2 v v2 Q _ (RD.mono e2 d v rd1) rd2 rm2 o2⟩⟩
theorem op1R {p : Prim} {r : V → Hp → VK → Prop} {fa : Rf.Env → Mem → R (D × Mem)} (hp : R1Ok A P call p r) (σ : L2.St) (H : Hp) (Q : VK)
    (q : AE A W (fun ρ m => (fa ρ m).bind fun r => prim P call p [r.1] r.2) σ H Q) : tUn r (AE A W fa) σ H Q := by
  obtain ⟨ν, ρ, m, re, rm, o⟩ := q
  exact ⟨ν, ρ, m, re, rm, o.split (Rel1 := RD A) fun d m1 v ν1 H1 _ e1 rd1 rm1 o1 => hp ν1 H1 m1 d v Q _ rd1 rm1 o1⟩
theorem opLR {p : Prim} {r : List V → Hp → VK → Prop} {fa : Rf.Env → Mem → R (List D × Mem)} (hp : RLOk A P call p r) (σ : L2.St) (H : Hp) (Q : VK)
    (q : AE A W (fun ρ m => (fa ρ m).bind fun r => prim P call p r.1 r.2) σ H Q) : tCB r (AA A W fa) σ H Q := by
  obtain ⟨ν, ρ, m, re, rm, o⟩ := q
  exact ⟨ν, ρ, m, re, rm, o.split (Rel1 := RDs A) fun d m1 v ν1 H1 _ e1 rd1 rm1 o1 => hp ν1 H1 m1 d v Q _ rd1 rm1 o1⟩

/-! ### as a test -/
theorem tst_of {fa : Rf.Env → Mem → R (D × Mem)} {K : PySem.W.Frag} (σ : L2.St) (H : Hp) (Q : Bool → Hp → Prop) (q : AT A W (fun ρ m => tst (fa ρ m)) σ H Q) :
    AE A W fa σ H fun x H' => ∃ k, TruV K x H' k ∧ Q k H' := by
  obtain ⟨ν, ρ, m, re, rm, o⟩ := q
  refine ⟨ν, ρ, m, re, rm, Out.split (Rel1 := RD A) (show Out A (fun _ _ b c => c = b) ν H ((fa ρ m).bind fun x => match truth x.2 x.1 with | some b => .ok (b, x.2) | none => .bad) Q _ from o) fun d m1 v ν1 H1 _ e1 rd1 rm1 o1 => ?_⟩
  dsimp only at o1
  split at o1
  · rename_i b hb
    exact ⟨b, truth_at rd1 rm1 hb, o1 b ν1 H1 (Ext.refl _ _) rfl rm1⟩
  · exact o1.elim
/-- a generic expression -/
theorem both_of {e : Expr} {fa : Rf.Env → Mem → R (D × Mem)} (h : PE X e (AE A W fa)) (he : plainTest e = true) : Both X A W e fa :=
  ⟨h, (pt_truth h (isTrue_plain_of he)).imp fun σ H Q q => tst_of σ H Q q⟩
/-- a comparison -/
theorem cmp_of {p : Prim} {op : CmpOp} {r : R2} {a b : Expr} {pos : Pos} {fa fb : Rf.Env → Mem → R (D × Mem)} (ho : OpR X (compareOp op) r) (hp : R2Ok A P call p r) (ha : PE X a (AE A W fa)) (hb : PE X b (AE A W fb)) (hm : notSet b = true)
    (hbl : ∀ x y m d m', prim P call p [x, y] m = .ok (d, m') → ∃ k, d = .bl k) : Both X A W (.Compare a [op] [b] pos) (fun ρ m => (fa ρ m).bind fun r => (fb ρ r.2).bind fun r2 => prim P call p [r.1, r2.1] r2.2) := by
  refine ⟨(pe_cmpR ho ha hb (notSet_mark hm)).imp fun σ H Q q => op2R hp σ H Q q, (pt_cmpR ho ha hb (notSet_mark hm)).imp fun σ H Q q => ?_⟩
  obtain ⟨ν, ρ, m, re, rm, o⟩ := q
  refine op2R (A := A) (W := W) hp σ H _ ⟨ν, ρ, m, re, rm, ?_⟩
  have key : ∀ (r : R (D × Mem)), (∀ d m', r = .ok (d, m') → ∃ k, d = .bl k) → Out A (fun _ _ b c => c = b) ν H (tst r) Q (WS W σ) → Out A (RD A) ν H r (fun x H' => ∃ k, x = .bl k ∧ Q k H') (WS W σ) := by
    intro r hr o
    cases r with
    | ok x =>
      obtain ⟨d, m1⟩ := x
      obtain ⟨k, rfl⟩ := hr d m1 rfl
      intro v ν1 H1 e1 rd1 rm1
      simp only [RD] at rd1
      exact ⟨k, rd1, o k ν1 H1 e1 rfl rm1⟩
    | exc c fs m' => exact o
    | bad => exact o
  refine key _ (fun d m' e => ?_) o
  dsimp only at e
  cases h1 : fa ρ m with
  | ok x =>
    rw [h1] at e
    simp only [R.bind] at e
    cases h2 : fb ρ x.2 with
    | ok y =>
      rw [h2] at e
      exact hbl _ _ _ _ _ e
    | _ => rw [h2] at e; cases e
  | _ => rw [h1] at e; cases e
theorem arith_bl {g : Int → Int → Bool} {m : Mem} {x y : D} {d : D} {m' : Mem} (h : arith (fun i j => .ok (.bl (g i j), m)) [x, y] = .ok (d, m')) : ∃ k, d = .bl k := by
  cases x <;> cases y <;> simp [arith] at h
  exact ⟨_, h.1.symm⟩

/-! ### parts in a row -/
theorem pa_sem {f : Rf.Env → Mem → R (D × Mem)} {g : Rf.Env → Mem → R (List D × Mem)} {e : Expr} {es : List Expr} (h1 : PE X e (AE A W f)) (h2 : PA X es (AA A W g)) (hs : notStar e = true) :
    PA X (e :: es) (AA A W fun ρ m => (f ρ m).bind fun r => (g ρ r.2).bind fun r2 => .ok (r.1 :: r2.1, r2.2)) := by
  refine (pa_cons h1 h2 (star_of hs)).imp fun σ H Q q => ?_
  obtain ⟨ν, ρ, m, re, rm, o⟩ := q
  refine ⟨ν, ρ, m, re, rm, o.split (Rel1 := RD A) fun d m1 v ν1 H1 _ e1 rd1 rm1 o1 => ⟨ν1, ρ, m1, re.mono e1, rm1, o1.split (Rel1 := RDs A) fun ds m2 vs ν2 H2 _ e2 rd2 rm2 o2 => ?_⟩⟩
  exact o2 (v :: vs) ν2 H2 (Ext.refl _ _) (.cons (RD.mono e2 d v rd1) rd2) rm2
/-- the list of the parts' readings -/
inductive Alls (X : Cx) (A : Ad) (P : Prg) (call : Nat → List D → Mem → R (D × Mem)) (W : WX) : CEs → List Expr → Prop
  | nil : Alls X A P call W .nil []
  | cons {e : CE} {es : CEs} {x : Expr} {xs : List Expr} : Both X A W x (semE P call e) → notStar x = true → Alls X A P call W es xs → Alls X A P call W (.cons e es) (x :: xs)
theorem Alls.pa : ∀ {es : CEs} {xs : List Expr}, Alls X A P call W es xs → PA X xs (AA A W (semEs P call es))
  | _, _, .nil => pa_nil.imp fun σ H Q ⟨ν, ρ, m, re, rm, o⟩ => o [] ν H (Ext.refl _ _) .nil rm
  | _, _, .cons h1 hs h2 => (pa_sem h1.pe h2.pa hs).imp fun σ H Q ⟨ν, ρ, m, re, rm, o⟩ => ⟨ν, ρ, m, re, rm, by simpa only [semEs] using o⟩
theorem Alls.stars : ∀ {es : CEs} {xs : List Expr}, Alls X A P call W es xs → xs.all notStar = true
  | _, _, .nil => rfl
  | _, _, .cons _ hs h2 => by rw [List.all_cons, hs, h2.stars]; rfl
theorem Alls.one {es : CEs} {x : Expr} (h : Alls X A P call W es [x]) : ∃ e, es = .cons e .nil ∧ Both X A W x (semE P call e) ∧ notStar x = true := by
  cases h with
  | cons h1 hs h2 => cases h2; exact ⟨_, rfl, h1, hs⟩
theorem Alls.two {es : CEs} {x y : Expr} (h : Alls X A P call W es [x, y]) : ∃ e f, es = .cons e (.cons f .nil) ∧ Both X A W x (semE P call e) ∧ Both X A W y (semE P call f) ∧ notStar x = true ∧ notStar y = true := by
  cases h with
  | cons h1 hs h2 =>
    obtain ⟨f, rfl, h3, hs2⟩ := h2.one
    exact ⟨_, f, rfl, h1, h3, hs, hs2⟩
theorem Alls.three {es : CEs} {x y z : Expr} (h : Alls X A P call W es [x, y, z]) : ∃ e f g, es = .cons e (.cons f (.cons g .nil)) ∧ Both X A W x (semE P call e) ∧ Both X A W y (semE P call f) ∧ Both X A W z (semE P call g) := by
  cases h with
  | cons h1 hs h2 =>
    obtain ⟨f, g, rfl, h3, h4, _, _⟩ := h2.two
    exact ⟨_, f, g, rfl, h1, h3, h4⟩

/-! ### names -/
theorem vis_of {i : Nat} {x : Str} {pos : Pos} (k : Cok c lev X W) (h : visB c i x = true) : PE X (.Name x pos) (AE A W (semE P call (.var i))) := by
  unfold visB plainName at h
  simp only [Bool.and_eq_true, Bool.or_eq_true, decide_eq_true_eq, Bool.not_eq_true'] at h
  obtain ⟨⟨h1, h2⟩, ⟨h3, h4⟩, h5⟩ := h
  refine (pe_var (i := i) (by rw [k.N]; exact h1) (by
    unfold Vis
    rw [k.sc]
    rcases h2 with (h2 | h2) | h2
    · exact .inl h2
    · exact .inr (.inl h2)
    · exact .inr (.inr h2)) h3 h4).imp fun σ H Q q => ?_
  obtain ⟨ν, ρ, m, re, rm, o⟩ := q
  simp only [semE] at o
  split at o
  · rename_i d hd
    obtain ⟨v, e1, e2⟩ := re.at_ i d hd
    exact ⟨v, e1, o v ν H (Ext.refl _ _) e2 rm⟩
  · exact o.elim
theorem gl_of {x : Str} (k : Cok c lev X W) (h : glB c x = true) : Gl X x ∧ (x == ("__debug__" : Str)) = false ∧ x ≠ "__name__" := by
  unfold glB plainName at h
  simp only [Bool.and_eq_true, decide_eq_true_eq, Bool.not_eq_true'] at h
  refine ⟨?_, h.2.1.1, h.2.2⟩
  show X.env.scope.names.lookup x = _
  rw [k.sc]; exact h.1
theorem const_of {d : D} {e : Expr} (h : chkD d e = true) : Both X A W e (semE P call (.const d)) := by
  cases d with
  | int i =>
    cases e <;> simp only [chkD] at h <;> try contradiction
    rename_i cst _ _
    cases cst <;> simp only [chkD, decide_eq_true_eq] at h <;> try contradiction
    subst h
    exact both_of (pe_int.imp fun σ H Q ⟨ν, ρ, m, re, rm, o⟩ => out_int rm (by simpa only [semE] using o)) rfl
  | str i =>
    cases e <;> simp only [chkD] at h <;> try contradiction
    rename_i cst _ _
    cases cst <;> simp only [chkD, decide_eq_true_eq] at h <;> try contradiction
    subst h
    exact both_of (pe_str.imp fun σ H Q ⟨ν, ρ, m, re, rm, o⟩ => out_same (d := .str i) (v := .str i) (by simp only [RD]) rm (by simpa only [semE] using o)) rfl
  | bl i =>
    cases e <;> simp only [chkD] at h <;> try contradiction
    rename_i cst _ _
    cases cst <;> simp only [chkD, decide_eq_true_eq] at h <;> try contradiction
    subst h
    exact both_of (pe_bl.imp fun σ H Q ⟨ν, ρ, m, re, rm, o⟩ => out_bl rm (by simpa only [semE] using o)) rfl
  | non =>
    cases e <;> simp only [chkD] at h <;> try contradiction
    rename_i cst _ _
    cases cst <;> simp only [chkD] at h <;> try contradiction
    exact both_of (pe_non.imp fun σ H Q ⟨ν, ρ, m, re, rm, o⟩ => out_same (d := .non) (v := .non) (by simp only [RD]) rm (by simpa only [semE] using o)) rfl
  | _ => cases e <;> simp [chkD] at h
end
end Rf

/-! C2: own classes: what the semantics says is what the rules ask. -/
namespace Rf
open PySem PySem.Spec PyProof.Rows L2
section
variable {L : Lk} {A : Ad} {P : Prg} {call : Nat → List D → Mem → R (D × Mem)} {lev : Nat} {c : Ct} {X : Cx} {W : WX} {ν : Nu} {H : Hp} {m : Mem}
theorem nox_out {α β : Type} {Rel : Nu → Hp → α → β → Prop} {r : R (α × Mem)} {Q : β → Hp → Prop} {E E' : XK} (o : Out A Rel ν H (nox r) Q E) : Out A Rel ν H r Q E' := by
  cases r with
  | ok x => exact o
  | exc _ _ _ => exact o.elim
  | bad => exact o.elim
/-- where an instance lies -/
theorem inst_at {d : D} {v : V} {c : Nat} (rd : RD A ν H d v) (rm : RM A ν H m) (h : selfC m d = some c) : ∃ a dx vs, v = .ref a ∧ SlX.Slt H a (A.ca c) dx vs := by
  cases d with
  | ins k fs =>
    simp only [selfC, Option.some.injEq] at h
    subst h
    simp only [RD] at rd
    obtain ⟨a, dx, vs, h1, _, h3, _, _⟩ := rd
    exact ⟨a, dx, vs, h1, h3⟩
  | ref n =>
    simp only [selfC] at h
    split at h
    · rename_i k fs hm
      cases h
      simp only [RD] at rd
      obtain ⟨a, h1, h2⟩ := rd
      obtain ⟨a', h3, dx, vs, h4, _, _⟩ := rm.get hm
      rw [h2] at h3
      cases h3
      exact ⟨a, dx, vs, h1, h4⟩
    · cases h
  | _ => cases h
/-- the type of what is no instance of ours -/
theorem ty_at {K : PySem.W.Frag} {d : D} {v : V} (rd : RD A ν H d v) (rm : RM A ν H m) (h : known P m d = true) (hs : selfC m d = none) : ∃ T ∈ tyNames, TyX K H v (.type T) := by
  unfold known at h
  rw [hs] at h
  cases d with
  | non => simp only [RD] at rd; subst rd; exact ⟨"NoneType", by simp [tyNames], .base .non⟩
  | bl b => simp only [RD] at rd; subst rd; exact ⟨"bool", by simp [tyNames], .base (.bl b)⟩
  | int b => simp only [RD] at rd; subst rd; exact ⟨"int", by simp [tyNames], .base (.int b)⟩
  | str b => simp only [RD] at rd; subst rd; exact ⟨"str", by simp [tyNames], .base (.str b)⟩
  | tup ds =>
    simp only [RD] at rd
    obtain ⟨a, xs, rfl, _, h3, _⟩ := rd
    exact ⟨"tuple", by simp [tyNames], .base (.tup h3)⟩
  | lst ds =>
    simp only [RD] at rd
    obtain ⟨a, xs, rfl, _, h3, _⟩ := rd
    exact ⟨"list", by simp [tyNames], .base (.lst h3)⟩
  | scr _ => cases h
  | fn _ => cases h
  | ins k fs => cases hs
  | ref n =>
    simp only [RD] at rd
    obtain ⟨a, rfl, h2⟩ := rd
    obtain ⟨cell, hc⟩ := Option.isSome_iff_exists.mp (show (m[n]?).isSome = true from h)
    obtain ⟨a', h3, h4⟩ := rm.get hc
    rw [h2] at h3
    cases h3
    cases cell with
    | lst ds => obtain ⟨xs, h5, _⟩ := h4; exact ⟨"list", by simp [tyNames], .base (.lst h5)⟩
    | obj c fs => simp only [selfC, hc] at hs; cases hs
    | dK ds => obtain ⟨xs, h5, _⟩ := h4; exact ⟨"dict", by simp [tyNames], .base (.dK h5)⟩
    | dT ds => obtain ⟨xs, h5, _⟩ := h4; exact ⟨"dict", by simp [tyNames], .base (.dT h5)⟩
abbrev LnkC (L : Lk) (A : Ad) (P : Prg) (call : Nat → List D → Mem → R (D × Mem)) (lev : Nat) (X : Cx) : Prop := Lnk L A P call lev X.prog X.w X.K X.mg X.base
theorem attr_core (T : LnkC L A P call lev X) (hr : Room (lev + 1) X.A) {k : Nat} {fs : List (Option D)} {self : D} {name : Str} {a dx : Addr} {vs : List (Option V)} {Q : VK} {E : XK} (hs : SlX.Slt H a (A.ca k) dx vs) (ho : ROo A ν H fs vs) (rd : RD A ν H self (.ref a)) (rm : RM A ν H m)
    (o : Out A (RD A) ν H (attrOf P call k fs self name m) Q E) : rAttr X name (.ref a) H Q := by
  unfold attrOf at o
  split at o
  · rename_i cl hcl
    have F := T.clss k cl hcl
    split at o
    · rename_i i hi
      split at o
      · rename_i d hd
        obtain ⟨v, h1, h2⟩ := ho.get hd
        have hf : cl.fields[i]? = some name := by
          obtain ⟨hlt, hp, _⟩ := List.findIdx?_eq_some_iff_getElem.mp hi
          rw [List.getElem?_eq_getElem hlt, of_decide_eq_true hp]
        obtain ⟨p, hp⟩ := F.slot i name hf
        exact ⟨a, _, dx, vs, rfl, hs, F.scls, .inl ⟨p, i, v, hp, h1, o v ν H (Ext.refl _ _) h2 rm⟩⟩
      · exact o.elim
    · split at o
      · rename_i f hf
        exact ⟨a, _, dx, vs, rfl, hs, F.scls, .inr ⟨_, lev, _, F.prop _ _ hf, T.fnr f, hr, ν, [self], m, .cons rd .nil, rm, nox_out o⟩⟩
      · exact o.elim
  · exact o.elim
theorem attr_ok (T : LnkC L A P call lev X) (hr : Room (lev + 1) X.A) {name : Str} : R1Ok A P call (.attr name) (rAttr X name) := by
  intro ν H m d v Q E rd rm o
  cases d with
  | ins k fs =>
    have rd' := rd
    simp only [RD] at rd
    obtain ⟨a, dx, vs, rfl, _, h3, _, h5⟩ := rd
    exact attr_core T hr h3 h5.some rd' rm o
  | ref n =>
    simp only [prim] at o
    split at o
    · rename_i k fs hm
      have rd' := rd
      simp only [RD] at rd
      obtain ⟨a, rfl, h2⟩ := rd
      obtain ⟨a', h3, dx, vs, h4, _, h5⟩ := rm.get hm
      rw [h2] at h3
      cases h3
      exact attr_core T hr h4 h5 rd' rm o
    · exact o.elim
  | _ => exact (show False from o).elim
/-- C(..) -/
theorem new_val {k : Nat} {cl : Cl} {ds : List D} {vs : List V} {Q : VK} {E : XK} (hcl : P.cls[k]? = some cl) (rds : RDs A ν H ds vs) (rm : RM A ν H m) (o : Out A (RD A) ν H (newOf P call k ds m) Q E) {x dx : Addr} (hx : H x = none) (hdx : H dx = none) (hne : dx ≠ x) :
    spR A call cl.init (.ref x :: vs) (upd (upd H dx (.own x)) x (.ins (A.ca k) dx [])) (fun v H2 => v = .non ∧ Q (.ref x) H2) E := by
  have hx1 : upd H dx (.own x) x = none := by rw [upd_ne (Ne.symm hne)]; exact hx
  have e0 : Ext ν H (ν.add x) (upd (upd H dx (.own x)) x (.ins (A.ca k) dx [])) := (Ext.same hdx).trans (Ext.alloc hx1)
  have nx : x ∉ ν := fun z => by
    obtain ⟨u, hu⟩ := rm.mem z
    rw [hx] at hu; cases hu
  have ndx : dx ∉ ν.add x := by
    rintro (z | z)
    · rcases List.mem_append.mp z with z | z
      · obtain ⟨u, hu⟩ := rm.mem (.inl z)
        rw [hdx] at hu; cases hu
      · rw [List.mem_singleton] at z
        exact hne z
    · obtain ⟨u, hu⟩ := rm.mem (.inr z)
      rw [hdx] at hu; cases hu
  have hdo : upd (upd H dx (.own x)) x (.ins (A.ca k) dx []) dx = some (.own x) := by rw [upd_ne hne, upd_same]
  have gx : (ν.add x).c[m.length]? = some x := by
    show (ν.c ++ [x])[m.length]? = some x
    rw [← rm.len]; simp
  have rm1 : RM A (ν.add x) (upd (upd H dx (.own x)) x (.ins (A.ca k) dx [])) (m ++ [.obj k []]) :=
    (rm.fresh hdx).alloc hx1 ⟨dx, [], .inl ⟨upd_same, rfl⟩, ⟨ndx, .inl hdo⟩, rfl⟩
  refine ⟨ν.add x, .ref m.length :: ds, m ++ [.obj k []], .cons (by simp only [RD]; exact ⟨x, rfl, gx⟩) (RDs.mono e0 _ _ rds), rm1, ?_⟩
  simp only [newOf, hcl] at o
  cases hr : call cl.init (.ref m.length :: ds) (m ++ [.obj k []]) with
  | bad => rw [hr] at o; exact o.elim
  | exc c' fs m' =>
    rw [hr] at o
    exact fun dx' ν' H' e rx rm' => o dx' ν' H' (e0.trans e) rx rm'
  | ok r =>
    rw [hr] at o
    obtain ⟨d, m'⟩ := r
    simp only [R.bind] at o
    intro v ν' H' e rd rm'
    cases d with
    | non =>
      refine ⟨by simpa only [RD] using rd, ?_⟩
      have gx' := e.get gx
      dsimp only at o rm'
      split at o
      · split at o
        · rename_i c' fs hm
          split at o
          · rename_i es hes
            split at o
            · rename_i hc
              obtain ⟨rfl, hl, hlow, hold⟩ := hc
              obtain ⟨dx', vs', hs, ⟨hd1, hd2⟩, ho⟩ := rm'.at_ _ _ _ hm gx'
              obtain ⟨dn, ex, rb⟩ := back_mem rm (e0.trans e) rm' hold
              refine o (.ref x) ν H' ex ?_ rb
              simp only [RD]
              exact ⟨x, dx', vs', rfl, nx, hs, ⟨dn.sub hd1, hd2⟩, RDo.down dn es vs' hlow (ho.somes hes)⟩
            · exact o.elim
          · exact o.elim
        · exact o.elim
      · exact o (.ref x) ν' H' (e0.trans e) (by simp only [RD]; exact ⟨x, rfl, gx'⟩) rm'
    | _ => exact o.elim
/-- x == y, x an instance -/
theorem eqC_ok (T : LnkC L A P call lev X) (hr : Room lev X.A) {neg : Bool} {a b : D} {k : Nat} {x y : V} {Q : VK} {E : XK} (hk : selfC m a = some k) (ra : RD A ν H a x) (rb : RD A ν H b y) (rm : RM A ν H m)
    (o : Out A (RD A) ν H (eqOf P call neg a b m) Q E) : rOwnX X (if neg then "__ne__" else "__eq__") x y H Q := by
  obtain ⟨p, dx, vs, rfl, hs⟩ := inst_at ra rm hk
  simp only [eqOf, hk] at o
  split at o
  · rename_i hkn
    unfold methOf at o
    cases hcl : P.cls[k]? with
    | none => simp only [hcl] at o; exact (show False from o).elim
    | some cl =>
      simp only [hcl] at o
      have F := T.clss k cl hcl
      cases hl : cl.meths.lookup (if neg then "__ne__" else "__eq__" : Str) with
      | none => simp only [hl] at o; exact (show False from o).elim
      | some f =>
        simp only [hl] at o
        have M := F.meth _ _ hl
        refine ⟨p, _, dx, vs, _, lev, _, rfl, hs, M.at_, M.fn, T.fnr f, hr, ?_, ν, [a, b], m, .cons ra (.cons rb .nil), rm, ?_⟩
        · cases hb : selfC m b with
          | some k' =>
            obtain ⟨p', dx', vs', e', hs'⟩ := inst_at rb rm hb
            unfold known at hkn
            rw [hb] at hkn
            obtain ⟨cl', hcl'⟩ := Option.isSome_iff_exists.mp hkn
            exact .inl ⟨p', _, dx', vs', e', hs', F.nf k' cl' hcl'⟩
          | none =>
            obtain ⟨T', hT, ht⟩ := ty_at (K := X.K) rb rm hkn hb
            exact .inr ⟨_, ht, F.nfT T' hT⟩
        · cases hc : call f [a, b] m with
          | ok r =>
            rw [hc] at o
            obtain ⟨d, m'⟩ := r
            simp only [nox, R.bind] at o
            cases d with
            | bl z => exact o
            | _ => exact o.elim
          | _ => rw [hc] at o; exact o.elim
  · exact o.elim
/-- isinstance(x, C), C of ours; of an instance: isinstance(x, T) -/
theorem isC_ok (T : LnkC L A P call lev X) {k : Nat} (hk : ∃ cl, P.cls[k]? = some cl) {d : D} {v : V} {Q : VK} {E : XK} (rd : RD A ν H d v) (rm : RM A ν H m) (o : Out A (RD A) ν H (prim P call (.isC k) [d] m) Q E) :
    rIsi X.K [v, .ref (A.ca k)] H Q ∨ SlX.rIsiSl X.K (.ref (A.ca k)) [v, .ref (A.ca k)] H Q := by
  simp only [prim] at o
  obtain ⟨cl, hcl⟩ := hk
  split at o
  · rename_i hkn
    cases hs : selfC m d with
    | none =>
      obtain ⟨T', hT, ht⟩ := ty_at (K := X.K) rd rm hkn hs
      rw [hs] at o
      exact .inl ⟨v, _, _, _, false, rfl, .own _, ht, (T.clss k cl hcl).isT T' hT, o _ ν H (Ext.refl _ _) (by simp only [RD]; rfl) rm⟩
    | some k' =>
      obtain ⟨p, dx, vs, rfl, hsl⟩ := inst_at rd rm hs
      have hkn' := hkn
      unfold known at hkn'
      rw [hs] at hkn'
      obtain ⟨cl', hcl'⟩ := Option.isSome_iff_exists.mp hkn'
      have F := T.clss k cl hcl
      have F' := T.clss k' cl' hcl'
      rw [hs] at o
      exact .inr ⟨p, _, dx, vs, _, decide (k' = k), rfl, rfl, fun w r => r, hsl, F'.scls, F'.isi, F.isC k' cl' hcl', o _ ν H (Ext.refl _ _) (by simp only [RD]; congr 1; exact decide_eq_decide.mpr ⟨fun e => by rw [e], fun e => Option.some.inj e⟩) rm⟩
  · exact o.elim
/-- o.m(..) -/
theorem meth_val (T : LnkC L A P call lev X) (hr : Room lev X.A) {f : Rf.Env → Mem → R (D × Mem)} {g : Rf.Env → Mem → R (List D × Mem)} {name : Str} {σ : L2.St} {Q : VK}
    (q : AE A W (fun ρ m => (f ρ m).bind fun r => match selfC r.2 r.1 with
      | some c => match (P.cls[c]?).bind fun cl => cl.meths.lookup name with
        | some h => (g ρ r.2).bind fun r2 => call h (r.1 :: r2.1) r2.2
        | none => .bad
      | none => .bad) σ H Q) : tMethX X W name (AE A W f) (AA A W g) σ H Q := by
  obtain ⟨ν, ρ, m, re, rm, o⟩ := q
  refine ⟨ν, ρ, m, re, rm, o.split (Rel1 := RD A) fun d m1 v ν1 H1 _ e1 rd1 rm1 o1 => ?_⟩
  dsimp only at o1
  split at o1
  · rename_i k hk
    obtain ⟨p, dx, vs, rfl, hs⟩ := inst_at rd1 rm1 hk
    cases hcl : P.cls[k]? with
    | none => simp only [hcl] at o1; exact (show False from o1).elim
    | some cl =>
      have F := T.clss k cl hcl
      simp only [hcl, Option.bind_some] at o1
      cases hl : cl.meths.lookup name with
      | none => simp only [hl] at o1; exact (show False from o1).elim
      | some h =>
        simp only [hl] at o1
        refine ⟨p, _, dx, vs, _, lev, _, rfl, hs, F.scls, F.meth _ _ hl, T.fnr h, hr, ν1, ρ, m1, re.mono e1, rm1, o1.split (Rel1 := RDs A) fun ds m2 ws ν2 H2 _ e2 rd2 rm2 o2 => ?_⟩
        exact ⟨ν2, d :: ds, m2, .cons (RD.mono e2 d _ rd1) rd2, rm2, o2⟩
  · exact o1.elim
end
end Rf

/-! R6: the operations. -/
namespace Rf
open PySem PySem.Spec PyProof.Rows L2
section
variable {L : Lk} {A : Ad} {P : Prg} {call : Nat → List D → Mem → R (D × Mem)} {lev : Nat} {c : Ct} {X : Cx} {W : WX}

/-- the semantics of an operation -/
abbrev sOp (P : Prg) (call : Nat → List D → Mem → R (D × Mem)) (p : Prim) (es : CEs) : Rf.Env → Mem → R (D × Mem) := fun ρ m => (semEs P call es ρ m).bind fun r => prim P call p r.1 r.2
theorem both_congr {e : Expr} {f g : Rf.Env → Mem → R (D × Mem)} (h : Both X A W e f) (k : ∀ ρ m, g ρ m = f ρ m) : Both X A W e g := by
  have e : g = f := funext fun ρ => funext fun m => k ρ m
  rw [e]; exact h

theorem binop_of {p : Prim} {op : Operator} {r : R2} {a b : Expr} {pos : Pos} {ea eb : CE} (ho : OpR X (binaryOp op) r) (hp : R2Ok A P call p r) (ha : Both X A W a (semE P call ea)) (hb : Both X A W b (semE P call eb)) :
    Both X A W (.BinOp a op b pos) (sOp P call p (.cons ea (.cons eb .nil))) :=
  both_congr (both_of ((pe_op ho ha.pe hb.pe).imp fun σ H Q q => op2R hp σ H Q q) rfl) fun ρ m => semEs2 ea eb ρ m p
theorem compare_of {p : Prim} {op : CmpOp} {r : R2} {a b : Expr} {pos : Pos} {ea eb : CE} (ho : OpR X (compareOp op) r) (hp : R2Ok A P call p r) (ha : Both X A W a (semE P call ea)) (hb : Both X A W b (semE P call eb)) (hm : notSet b = true)
    (hbl : ∀ x y m d m', prim P call p [x, y] m = .ok (d, m') → ∃ k, d = .bl k) : Both X A W (.Compare a [op] [b] pos) (sOp P call p (.cons ea (.cons eb .nil))) :=
  both_congr (cmp_of ho hp ha.pe hb.pe hm hbl) fun ρ m => semEs2 ea eb ρ m p
theorem bfun_of {p : Prim} {id : String} {r : List V → Hp → VK → Prop} {x : Str} {np pos : Pos} {e : Expr} {es : List Expr} {ces : CEs} (hc : CallR X (.builtin id) r) (hp : RLOk A P call p r) (k : Cok c lev X W) (hg : glB c x = true) (hm : X.mg x = none)
    (hv : bootBuiltins x = some (.builtin id)) (h : Alls X A P call W ces (e :: es)) : Both X A W (.Call (.Name x np) (e :: es) [] pos) (sOp P call p ces) := by
  obtain ⟨g1, g2, g3⟩ := gl_of k hg
  have st := h.stars
  rw [List.all_cons, Bool.and_eq_true] at st
  exact both_of ((pe_callB hc g1 hm hv h.pa g3 g2 (star_of st.1) (stars_of st.2)).imp fun σ H Q q => opLR hp σ H Q q) rfl
theorem btyp_of {p : Prim} {id : String} {r : List V → Hp → VK → Prop} {x : Str} {np pos : Pos} {e : Expr} {es : List Expr} {ces : CEs} (hc : CallR X (.type id) r) (hp : RLOk A P call p r) (k : Cok c lev X W) (hg : glB c x = true) (hm : X.mg x = none)
    (hv : bootBuiltins x = some (.type id)) (h : Alls X A P call W ces (e :: es)) : Both X A W (.Call (.Name x np) (e :: es) [] pos) (sOp P call p ces) := by
  obtain ⟨g1, g2, g3⟩ := gl_of k hg
  have st := h.stars
  rw [List.all_cons, Bool.and_eq_true] at st
  exact both_of ((pe_callTy hc g1 hm hv h.pa g3 g2 (star_of st.1) (stars_of st.2)).imp fun σ H Q q => opLR hp σ H Q q) rfl
/-- not -/
theorem not_of' {a : Expr} {ea : CE} {pos : Pos} (ha : Both X A W a (semE P call ea)) : Both X A W (.UnaryOp .Not a pos) (sOp P call .not (.cons ea .nil)) := by
  refine both_congr (f := fun ρ m => (semE P call ea ρ m).bind fun r => prim P call .not [r.1] r.2) ⟨(pe_notT ha.pe).imp fun σ H Q q => ?_, (pt_not ha.pt).imp fun σ H Q q => ?_⟩ fun ρ m => semEs1 ea ρ m .not
  · obtain ⟨ν, ρ, m, re, rm, o⟩ := q
    refine ⟨ν, ρ, m, re, rm, o.split (Rel1 := RD A) fun d m1 v ν1 H1 _ e1 rd1 rm1 o1 => ?_⟩
    have o2 : Out A (RD A) ν1 H1 (match truth m1 d with | some b => .ok (.bl (!b), m1) | none => .bad) Q (WS W σ) := o1
    split at o2
    · rename_i b hb
      exact ⟨b, truth_at rd1 rm1 hb, out_bl rm1 o2⟩
    · exact o2.elim
  · obtain ⟨ν, ρ, m, re, rm, o⟩ := q
    refine ⟨ν, ρ, m, re, rm, ?_⟩
    have key : tst ((semE P call ea ρ m).bind fun r => prim P call .not [r.1] r.2) = (tst (semE P call ea ρ m)).bind fun x => .ok (!x.1, x.2) := by
      cases h : semE P call ea ρ m with
      | ok x =>
        simp only [R.bind, tst, prim]
        cases truth x.2 x.1 <;> rfl
      | _ => rfl
    dsimp only at o
    rw [key] at o
    exact o.split (Rel1 := fun _ _ b c => c = b) fun b m1 b' ν1 H1 _ e1 eb rm1 o1 => by
      subst eb
      exact o1 _ ν1 H1 (Ext.refl _ _) rfl rm1

theorem eq_ok2 {neg : Bool} {K : PySem.W.Frag} {a b : D} {x y : V} {Q : VK} {E : XK} {ν : Nu} {H : Hp} {m : Mem} (hk : selfC m a = none) (ra : RD A ν H a x) (rb : RD A ν H b y) (r : RM A ν H m) (o : Out A (RD A) ν H (eqOf P call neg a b m) Q E) :
    ∃ d e, Dp K H x d ∧ Dp K H y e ∧ SeqAt.shaped d = true ∧ SeqAt.shaped e = true ∧ Q (.bl (if neg then !PyData.eqv d e else PyData.eqv d e)) H := by
  simp only [eqOf, hk] at o
  exact eqD_ok ra rb r o
theorem eq_bl {neg : Bool} {x y d : D} {m m' : Mem} (h : eqOf P call neg x y m = .ok (d, m')) : ∃ k, d = .bl k := by
  unfold eqOf at h
  split at h
  · rename_i c hc
    split at h
    · cases q : nox (methOf P call c x (if neg then "__ne__" else "__eq__") [y] m) with
      | ok r =>
        rw [q] at h
        simp only [R.bind] at h
        split at h
        · cases h; exact ⟨_, rfl⟩
        · cases h
      | _ => rw [q] at h; cases h
    · cases h
  · split at h
    · split at h
      · cases h; exact ⟨_, rfl⟩
      · cases h
    · cases h
theorem in_bl {neg : Bool} {x y d : D} {m m' : Mem} (h : inOf neg x y m = .ok (d, m')) : ∃ k, d = .bl k := by
  unfold inOf at h
  split at h
  · split at h
    · cases h; exact ⟨_, rfl⟩
    · cases h
  · cases h
theorem is_bl {x y d : D} {m m' : Mem} (h : prim P call .is_ [x, y] m = .ok (d, m')) : ∃ k, d = .bl k := by
  cases y <;> cases x <;> simp [prim] at h <;> exact ⟨_, h.1.symm⟩
theorem isnot_bl {x y d : D} {m m' : Mem} (h : prim P call .isnot [x, y] m = .ok (d, m')) : ∃ k, d = .bl k := by
  cases y <;> cases x <;> simp [prim] at h <;> exact ⟨_, h.1.symm⟩

/-- what the head must bring of the program -/
abbrev LnkX (L : Lk) (A : Ad) (P : Prg) (call : Nat → List D → Mem → R (D × Mem)) (lev : Nat) (X : Cx) : Prop := Lnk L A P call lev X.prog X.w X.K X.mg X.base

theorem compares (T : LnkX L A P call lev X) (k : Cok c lev X W) {p : Prim} {op : CmpOp} (h : Rf.cmpOp p = some op) : ∃ r, OpR X (compareOp op) r ∧ R2Ok A P call p r ∧ ∀ x y m d m', prim P call p [x, y] m = .ok (d, m') → ∃ k, d = .bl k := by
  have hu := k.room.units
  cases p <;> simp only [Rf.cmpOp, Option.some.injEq, reduceCtorEq] at h <;> subst h
  · exact ⟨_, (op_ownX (op := .Eq) fun _ _ => rfl).or (op_eqD hu), fun ν H m a b x y Q E ra rb r o => by
      cases hk : selfC m a with
      | some c' => exact .inl (eqC_ok T k.room (neg := false) hk ra rb r o)
      | none => exact .inr (eq_ok2 (neg := false) hk ra rb r o), fun _ _ _ _ _ h => eq_bl (neg := false) h⟩
  · exact ⟨_, (op_ownX (op := .NotEq) fun _ _ => rfl).or (op_neD hu), fun ν H m a b x y Q E ra rb r o => by
      cases hk : selfC m a with
      | some c' => exact .inl (eqC_ok T k.room (neg := true) hk ra rb r o)
      | none => exact .inr (eq_ok2 (neg := true) hk ra rb r o), fun _ _ _ _ _ h => eq_bl (neg := true) h⟩
  · exact ⟨_, op_lt, lt_ok, fun _ _ _ _ _ h => arith_bl (g := fun i j => decide (i < j)) h⟩
  · exact ⟨_, op_le, le_ok, fun _ _ _ _ _ h => arith_bl (g := fun i j => decide (i ≤ j)) h⟩
  · exact ⟨_, op_gt, gt_ok, fun _ _ _ _ _ h => arith_bl (g := fun i j => decide (j < i)) h⟩
  · exact ⟨_, op_ge, ge_ok, fun _ _ _ _ _ h => arith_bl (g := fun i j => decide (j ≤ i)) h⟩
  · exact ⟨_, op_is2, is_ok, fun _ _ _ _ _ h => is_bl h⟩
  · exact ⟨_, op_isnot2, isnot_ok, fun _ _ _ _ _ h => isnot_bl h⟩
  · exact ⟨_, op_in_seq, fun ν H m a b x y Q E ra rb r o => in_ok ra rb r o, fun _ _ _ _ _ h => in_bl (neg := false) h⟩
  · exact ⟨_, op_notIn_seq, fun ν H m a b x y Q E ra rb r o => in_ok ra rb r o, fun _ _ _ _ _ h => in_bl (neg := true) h⟩
theorem binops {p : Prim} {op : Operator} (h : Rf.binOp p = some op) : ∃ r, OpR X (binaryOp op) r ∧ R2Ok A P call p r := by
  cases p <;> simp only [Rf.binOp, Option.some.injEq, reduceCtorEq] at h <;> subst h
  · exact ⟨_, op_add3, add_ok⟩
  · exact ⟨_, op_sub, sub_ok⟩
  · exact ⟨_, op_mul2, mul_ok⟩
  · exact ⟨_, op_fdivW, fdiv_ok⟩
  · exact ⟨_, op_mod, mod_ok⟩
  · exact ⟨_, op_powW, pow_ok⟩
theorem bfuns (T : LnkX L A P call lev X) (k : Cok c lev X W) {p : Prim} {x : Str} (h : bfun p = some x) : ∃ id r, CallR X (.builtin id) r ∧ RLOk A P call p r ∧ X.mg x = none ∧ bootBuiltins x = some (.builtin id) := by
  have f : ∀ y ∈ bnames, X.mg y = none := T.free
  cases p <;> simp only [bfun, Option.some.injEq, reduceCtorEq] at h <;> subst h
  · exact ⟨_, _, call_len, len_ok T.hK, f _ (by simp [bnames]), by decide +kernel⟩
  · exact ⟨_, _, (cr_sum k.calm).or (cr_sumT k.calm), sum_ok, f _ (by simp [bnames]), by decide +kernel⟩
  · exact ⟨_, _, cr_max k.calm, max1_ok, f _ (by simp [bnames]), by decide +kernel⟩
  · exact ⟨_, _, cr_min k.calm, min1_ok, f _ (by simp [bnames]), by decide +kernel⟩
  · exact ⟨_, _, call_max2 k.calm, max2_ok, f _ (by simp [bnames]), by decide +kernel⟩
  · exact ⟨_, _, call_min2 k.calm, min2_ok, f _ (by simp [bnames]), by decide +kernel⟩
  · exact ⟨_, _, call_abs, abs_ok, f _ (by simp [bnames]), by decide +kernel⟩
  · exact ⟨_, _, cr_sortedI.or (cr_sortedPO.or cr_sortedPT), sorted_ok, f _ (by simp [bnames]), by decide +kernel⟩
  · exact ⟨_, _, cr_all k.calm, all_ok, f _ (by simp [bnames]), by decide +kernel⟩
  · exact ⟨_, _, cr_any k.calm, any_ok, f _ (by simp [bnames]), by decide +kernel⟩
theorem btyps (T : LnkX L A P call lev X) {p : Prim} {x : Str} (h : btyp p = some x) : ∃ id r, CallR X (.type id) r ∧ RLOk A P call p r ∧ X.mg x = none ∧ bootBuiltins x = some (.type id) := by
  have f : ∀ y ∈ bnames, X.mg y = none := T.free
  cases p <;> simp only [btyp, Option.some.injEq, reduceCtorEq] at h <;> subst h
  · exact ⟨_, _, call_int1, int_ok, f _ (by simp [bnames]), by decide +kernel⟩
  · exact ⟨_, _, call_tuple_of, tupOf_ok, f _ (by simp [bnames]), by decide +kernel⟩
  · exact ⟨_, _, call_list_of, listOf_ok, f _ (by simp [bnames]), by decide +kernel⟩

/-- f(e, ..), an own def -/
theorem call_of (T : LnkX L A P call lev X) (k : Cok c lev X W) {f : Nat} {x : Str} {np pos : Pos} {e : Expr} {es : List Expr} {ces : CEs} (hf : L.fname[f]? = some x) (hg : glB c x = true) (h : Alls X A P call W ces (e :: es)) :
    Both X A W (.Call (.Name x np) (e :: es) [] pos) (sOp P call (.call f) ces) := by
  obtain ⟨g1, g2, _⟩ := gl_of k hg
  have st := h.stars
  rw [List.all_cons, Bool.and_eq_true] at st
  obtain ⟨fd, ps, n, m1, m2, m3, m4, m5⟩ := T.funs f x hf
  refine both_of ((pe_callS m3 k.room g1 m1 m2 m4 (fun σ => passAt k.tk σ) h.pa g2 (star_of st.1) (stars_of st.2)).imp fun σ H Q q => ?_) rfl
  obtain ⟨ν, ρ, m, re, rm, o⟩ := q
  refine ⟨ν, ρ, m, re, rm, o.split (Rel1 := RDs A) fun ds m1 vs ν1 H1 _ e1 rd1 rm1 o1 => ⟨ν1, ds, m1, ?_, rd1, rm1, o1⟩⟩
  rw [rd1.length]
  by_cases z : ds.length = n
  · exact z
  · exact (show False by
      have : Out A (RD A) ν1 H1 (call f ds m1) Q (WS W σ) := o1
      rw [m5 ds m1 z] at this
      exact this).elim

/-- isinstance(x, T), T a built-in type -/
theorem tyx_at {K : PySem.W.Frag} {ν : Nu} {H : Hp} {m : Mem} {d : D} {v : V} (h : RD A ν H d v) (r : RM A ν H m) {t : String} {b : Bool} (e : isIOf t d m = some b) (ht : ["int", "bool", "str", "tuple", "list", "dict"].contains t = true) :
    ∃ u, TyX K H v u ∧ PySem.W.kitOne K u (.type t) = some b := by
  have ht2 : t = "int" ∨ t = "bool" ∨ t = "str" ∨ t = "tuple" ∨ t = "list" ∨ t = "dict" := by simpa using ht
  cases d with
  | non =>
    simp only [RD] at h
    simp only [isIOf, Option.some.injEq] at e
    subst h e
    refine ⟨_, .base .non, ?_⟩
    rcases ht2 with rfl | rfl | rfl | rfl | rfl | rfl <;> exact kit_ty (by decide +kernel)
  | bl _ =>
    simp only [RD] at h
    simp only [isIOf, Option.some.injEq] at e
    subst h e
    refine ⟨_, .base (.bl _), ?_⟩
    rcases ht2 with rfl | rfl | rfl | rfl | rfl | rfl <;> exact kit_ty (by decide +kernel)
  | int _ =>
    simp only [RD] at h
    simp only [isIOf, Option.some.injEq] at e
    subst h e
    refine ⟨_, .base (.int _), ?_⟩
    rcases ht2 with rfl | rfl | rfl | rfl | rfl | rfl <;> exact kit_ty (by decide +kernel)
  | str _ =>
    simp only [RD] at h
    simp only [isIOf, Option.some.injEq] at e
    subst h e
    refine ⟨_, .base (.str _), ?_⟩
    rcases ht2 with rfl | rfl | rfl | rfl | rfl | rfl <;> exact kit_ty (by decide +kernel)
  | tup ds =>
    simp only [RD] at h
    obtain ⟨a, xs, rfl, _, h3, h4⟩ := h
    simp only [isIOf, Option.some.injEq] at e
    subst e
    refine ⟨_, .base (.tup h3), ?_⟩
    rcases ht2 with rfl | rfl | rfl | rfl | rfl | rfl <;> exact kit_ty (by decide +kernel)
  | lst ds =>
    simp only [RD] at h
    obtain ⟨a, xs, rfl, _, h3, h4⟩ := h
    simp only [isIOf, Option.some.injEq] at e
    subst e
    refine ⟨_, .base (.lst h3), ?_⟩
    rcases ht2 with rfl | rfl | rfl | rfl | rfl | rfl <;> exact kit_ty (by decide +kernel)
  | ref n =>
    simp only [isIOf] at e
    split at e
    · rename_i ys hm
      cases e
      obtain ⟨a, xs, rfl, h3, h4⟩ := lstOf_at h r (show lstOf m (.ref n) = some ys by simp only [lstOf, hm])
      refine ⟨_, .base (.lst h3), ?_⟩
      rcases ht2 with rfl | rfl | rfl | rfl | rfl | rfl <;> exact kit_ty (by decide +kernel)
    · rename_i kvs hm
      cases e
      simp only [RD] at h
      obtain ⟨a, rfl, h2⟩ := h
      obtain ⟨a', h3, h4⟩ := r.get hm
      rw [h2] at h3
      cases h3
      obtain ⟨xs, h5, h6⟩ := h4
      refine ⟨_, .base (.dK h5), ?_⟩
      rcases ht2 with rfl | rfl | rfl | rfl | rfl | rfl <;> exact kit_ty (by decide +kernel)
    · rename_i kvs hm
      cases e
      simp only [RD] at h
      obtain ⟨a, rfl, h2⟩ := h
      obtain ⟨a', h3, h4⟩ := r.get hm
      rw [h2] at h3
      cases h3
      obtain ⟨xs, h5, h6⟩ := h4
      refine ⟨_, .base (.dT h5), ?_⟩
      rcases ht2 with rfl | rfl | rfl | rfl | rfl | rfl <;> exact kit_ty (by decide +kernel)
    · cases e
  | _ => simp [isIOf] at e
theorem isI_of (T : LnkX L A P call lev X) (k : Cok c lev X W) {t : String} {z : Str} {np np2 pos : Pos} {y : Expr} {ces : CEs} (hg : glB c "isinstance" = true) (hz : z = t) (hg2 : glB c z = true) (ht : ["int", "bool", "str", "tuple", "list", "dict"].contains t = true) (h : Alls X A P call W ces [y]) :
    Both X A W (.Call (.Name "isinstance" np) [y, .Name z np2] [] pos) (sOp P call (.isI t) ces) := by
  subst hz
  obtain ⟨g1, g2, g3⟩ := gl_of k hg
  obtain ⟨g4, g5, g6⟩ := gl_of k hg2
  obtain ⟨ea, rfl, hy, hs⟩ := h.one
  have ht2 : t = "int" ∨ t = "bool" ∨ t = "str" ∨ t = "tuple" ∨ t = "list" ∨ t = "dict" := by simpa using ht
  have f : ∀ y ∈ bnames, X.mg y = none := T.free
  have hm : X.mg (t : Str) = none ∧ bootBuiltins (t : Str) = some (.type t) := by
    rcases ht2 with rfl | rfl | rfl | rfl | rfl | rfl <;> exact ⟨f _ (by simp [bnames]), by decide +kernel⟩
  have hty : PE X (.Name (t : Str) np2) (tC (.ty t)) := pe_bltn g4 hm.1 hm.2 rfl g6 g5
  have ha := pa_cons hy.pe (pa_cons hty pa_nil rfl) (star_of hs)
  refine both_congr (f := fun ρ m => (semE P call ea ρ m).bind fun r => prim P call (.isI t) [r.1] r.2) (both_of ((pe_callB (call_isi.or (SlX.call_isiSl (.type t))) g1 (f _ (by simp [bnames])) (by decide +kernel) ha g3 g2 (star_of hs) (stars_of (es := [.Name (t : Str) np2]) rfl)).imp fun σ H Q q => ?_) rfl) fun ρ m => semEs1 ea ρ m _
  obtain ⟨ν, ρ, m, re, rm, o⟩ := q
  refine ⟨ν, ρ, m, re, rm, o.split (Rel1 := RD A) fun d m1 v ν1 H1 _ e1 rd1 rm1 o1 => ?_⟩
  have o2 : Out A (RD A) ν1 H1 (match selfC m1 d with
    | some c => if (P.cls[c]?).isSome then .ok (.bl false, m1) else .bad
    | none => match isIOf t d m1 with | some b => .ok (.bl b, m1) | none => .bad) Q (WS W σ) := o1
  split at o2
  · rename_i k' hk
    split at o2
    · rename_i hcl
      obtain ⟨cl, hcl⟩ := Option.isSome_iff_exists.mp hcl
      obtain ⟨p, dx, vs, rfl, hsl⟩ := inst_at rd1 rm1 hk
      have F := T.clss k' cl hcl
      refine .inr ⟨p, _, dx, vs, .ty t, false, rfl, rfl, fun w r => r, hsl, F.scls, F.isi, F.notT t ?_, out_bl rm1 o2⟩
      rcases ht2 with rfl | rfl | rfl | rfl | rfl | rfl <;> simp [tyNames]
    · exact o2.elim
  · split at o2
    · rename_i b hb
      obtain ⟨u, h1, h2⟩ := tyx_at rd1 rm1 hb ht
      exact .inl ⟨v, .ty t, u, .type t, b, rfl, .ty t, h1, h2, out_bl rm1 o2⟩
    · exact o2.elim
/-- isinstance(x, C), C a class of ours -/
theorem isC_of (T : LnkX L A P call lev X) (k : Cok c lev X W) {i : Nat} {z : Str} {np np2 pos : Pos} {y : Expr} {ces : CEs} (hg : glB c "isinstance" = true) (hz : L.cname[i]? = some z) (hg2 : glB c z = true) (h : Alls X A P call W ces [y]) :
    Both X A W (.Call (.Name "isinstance" np) [y, .Name z np2] [] pos) (sOp P call (.isC i) ces) := by
  obtain ⟨g1, g2, g3⟩ := gl_of k hg
  obtain ⟨g4, g5, g6⟩ := gl_of k hg2
  obtain ⟨ea, rfl, hy, hs⟩ := h.one
  obtain ⟨hcl, hm⟩ := T.cnames i z hz
  have f : ∀ y ∈ bnames, X.mg y = none := T.free
  have hty : PE X (.Name z np2) (tC (.ref (A.ca i))) := pe_glob g4 hm rfl g5
  have ha := pa_cons hy.pe (pa_cons hty pa_nil rfl) (star_of hs)
  refine both_congr (f := fun ρ m => (semE P call ea ρ m).bind fun r => prim P call (.isC i) [r.1] r.2) (both_of ((pe_callB (call_isi.or (SlX.call_isiSl (.ref (A.ca i)))) g1 (f _ (by simp [bnames])) (by decide +kernel) ha g3 g2 (star_of hs) (stars_of (es := [.Name z np2]) rfl)).imp fun σ H Q q => ?_) rfl) fun ρ m => semEs1 ea ρ m _
  obtain ⟨ν, ρ, m, re, rm, o⟩ := q
  refine ⟨ν, ρ, m, re, rm, o.split (Rel1 := RD A) fun d m1 v ν1 H1 _ e1 rd1 rm1 o1 => ?_⟩
  exact isC_ok T hcl rd1 rm1 o1
/-- o.f -/
theorem attr_of' (T : LnkX L A P call lev X) (k : Cok c lev X W) {f : Str} {a : Expr} {pos : Pos} {ces : CEs} (hb : baseOk a = true) (h : Alls X A P call W ces [a]) : Both X A W (.Attribute a f pos) (sOp P call (.attr f) ces) := by
  obtain ⟨ea, rfl, hy, hs⟩ := h.one
  exact both_congr (f := fun ρ m => (semE P call ea ρ m).bind fun r => prim P call (.attr f) [r.1] r.2) (both_of ((pe_attrX hy.pe (base_of hb)).imp fun σ H Q q => op1R (attr_ok T k.room1) σ H Q q) rfl) fun ρ m => semEs1 ea ρ m _
/-- C(..) -/
theorem new_of (T : LnkX L A P call lev X) (k : Cok c lev X W) {i : Nat} {z : Str} {np pos : Pos} {xs : List Expr} {ces : CEs} (hz : L.cname[i]? = some z) (hg : glB c z = true) (h : Alls X A P call W ces xs) :
    Both X A W (.Call (.Name z np) xs [] pos) (sOp P call (.new i) ces) := by
  obtain ⟨g1, g2, _⟩ := gl_of k hg
  obtain ⟨⟨cl, hcl⟩, hm⟩ := T.cnames i z hz
  have F := T.clss i cl hcl
  have key : ∀ (σ : L2.St) (H : Hp) (Q : VK), AE A W (sOp P call (.new i) ces) σ H Q → tMakeX (A.ca i) W (spR A call cl.init) (AA A W (semEs P call ces)) σ H Q := fun σ H Q q => by
    obtain ⟨ν, ρ, m, re, rm, o⟩ := q
    refine ⟨ν, ρ, m, re, rm, o.split (Rel1 := RDs A) fun ds m1 vs ν1 H1 _ e1 rd1 rm1 o1 => ?_⟩
    exact fun x dx hx hdx hne => new_val hcl rd1 rm1 o1 hx hdx hne
  cases xs with
  | nil =>
    refine both_of ((pe_makeX0 k.tk F.made (T.fnr _) k.room1 g1 hm g2).imp fun σ H Q q => ?_) rfl
    have := key σ H Q q
    cases h
    obtain ⟨ν, ρ, m, re, rm, o⟩ := this
    exact o [] ν H (Ext.refl _ _) .nil rm
  | cons e es => exact both_of ((pe_makeX k.tk F.made (T.fnr _) k.room1 g1 hm h.pa g2 h.stars).imp key) rfl
/-- f(), an own def -/
theorem call0_of (T : LnkX L A P call lev X) (k : Cok c lev X W) {f : Nat} {x : Str} {np pos : Pos} {ces : CEs} (hf : L.fname[f]? = some x) (hg : glB c x = true) (h : Alls X A P call W ces []) :
    Both X A W (.Call (.Name x np) [] [] pos) (sOp P call (.call f) ces) := by
  obtain ⟨g1, g2, _⟩ := gl_of k hg
  obtain ⟨fd, ps, n, m1, m2, m3, m4, m5⟩ := T.funs f x hf
  refine both_of ((pe_callX0 k.tk (T.fnr f) k.room g1 m1 m2 g2).imp fun σ H Q q => ?_) rfl
  obtain ⟨ν, ρ, m, re, rm, o⟩ := q
  cases h
  exact ⟨ν, [], m, .nil, rm, o⟩
/-- o.m(..), o an instance -/
theorem meth_of (T : LnkX L A P call lev X) (k : Cok c lev X W) {o : Expr} {n : Str} {xs : List Expr} {apos cpos : Pos} {eo : CE} {ces : CEs} (hl : (apos.endLine == cpos.line) = true) (hb : baseOk o = true) (hn : xs.length < 30) (ho : Both X A W o (semE P call eo)) (h : Alls X A P call W ces xs) :
    Both X A W (.Call (.Attribute o n apos) xs [] cpos) (semE P call (.meth 2 n eo ces)) := by
  have key : ∀ (σ : L2.St) (H : Hp) (Q : VK), AE A W (semE P call (.meth 2 n eo ces)) σ H Q → tMethX X W n (AE A W (semE P call eo)) (AA A W (semEs P call ces)) σ H Q := fun σ H Q q => by
    refine meth_val T k.room ?_
    obtain ⟨ν, ρ, m, re, rm, o⟩ := q
    refine ⟨ν, ρ, m, re, rm, ?_⟩
    simp only [semE] at o
    dsimp only
    cases hr : semE P call eo ρ m with
    | ok r =>
      rw [hr] at o
      simp only [R.bind] at o ⊢
      split at o
      · rename_i hk
        cases hs : selfC r.2 r.1 with
        | some c' => rw [hs] at o; simp only [hs]; exact o
        | none =>
          obtain ⟨d, m1⟩ := r
          exfalso
          cases d with
          | ins _ _ => cases hs
          | ref i =>
            simp only [recvK] at hk
            simp only [selfC] at hs
            split at hk <;> rename_i hm <;> first | (simp at hk; done) | (rw [hm] at hs; cases hs)
          | _ => simp [recvK] at hk
      · exact o.elim
    | exc _ _ _ => rw [hr] at o; exact o
    | bad => rw [hr] at o; exact o
  cases xs with
  | nil =>
    refine both_of ((pe_methX0 k.tk ho.pe (base_of hb) hl).imp fun σ H Q q => ?_) rfl
    have := key σ H Q q
    cases h
    obtain ⟨ν, ρ, m, re, rm, o⟩ := this
    refine ⟨ν, ρ, m, re, rm, o.imp fun v H' ⟨a, C, dx, vs, g, n, sp, h1, h2, h3, h4, h5, h6, ν', ρ', m', re', rm', o'⟩ => ⟨a, C, dx, vs, g, n, sp, h1, h2, h3, h4, h5, h6, ?_⟩⟩
    exact o' [] ν' H' (Ext.refl _ _) .nil rm'
  | cons e es => exact both_of ((pe_methX k.tk ho.pe h.pa (base_of hb) h.stars hn hl).imp key) rfl
theorem append_val {ν : Nu} {H : Hp} {m : Mem} {d y : D} {a : Addr} {v : V} {Q : VK} {E : XK} (rd : RD A ν H d (.ref a)) (ry : RD A ν H y v) (rm : RM A ν H m) (o : Out A (RD A) ν H (prim P call (.meth "append") [d, y] m) Q E) : rAppend (.ref a) [v] H Q := by
  cases d with
  | ref n =>
    simp only [prim] at o
    split at o
    · rename_i xs hm
      split at o
      · rename_i hl
        have rd' := rd
        simp only [RD] at rd
        obtain ⟨a', e, hn⟩ := rd
        cases e
        obtain ⟨a', h1, ys, h3, h4⟩ := rm.get hm
        rw [hn] at h1
        cases h1
        have ha : a ∈ ν.c := List.mem_of_getElem? hn
        have ex := Ext.set (H := H) (o := .lst (ys ++ [v])) ha
        refine ⟨a, ys, v, rfl, rfl, h3, ?_, o .non ν _ ex (by simp only [RD]) (rm.set hn ⟨ys ++ [v], upd_same, ?_⟩)⟩
        · rw [h4.length, sizeLine_eq]; exact hl.2
        · exact RDs.mono ex _ _ (h4.append (.cons ry .nil))
      · exact o.elim
    · exact o.elim
  | _ => exact (show False from o).elim
/-- o.append(e) -/
theorem append_of {o e : Expr} {apos cpos : Pos} {ea eb : CE} (hl : (apos.endLine == cpos.line) = true) (hb : attributeBase o "append" X.env (eval o X.env) = eval o X.env) (ho : Both X A W o (semE P call ea)) (he : Both X A W e (semE P call eb)) (hs : notStar e = true) :
    Both X A W (.Call (.Attribute o "append" apos) [e] [] cpos) (semE P call (.meth 1 "append" ea (.cons eb .nil))) := by
  have ha := pa_cons he.pe (pa_nil (X := X)) (star_of hs)
  refine both_of ((pe_bm PySem.F.plainAttrs_list PySem.F.slot_list_append PySem.F.type_list_append mt_append ho.pe ha hb (by rw [star_of hs]; rfl) hl (star_of hs) rfl).imp fun σ H Q q => ?_) rfl
  obtain ⟨ν, ρ, m, re, rm, o⟩ := q
  simp only [semE] at o
  refine ⟨ν, ρ, m, re, rm, o.split (Rel1 := RD A) fun d m1 v ν1 H1 _ e1 rd1 rm1 o1 => ?_⟩
  dsimp only at o1
  split at o1
  · rename_i hk
    have o2 : Out A (RD A) ν1 H1 ((semE P call eb ρ m1).bind fun r2 => prim P call (.meth "append") [d, r2.1] r2.2) Q (WS W σ) := by
      have hs0 : selfC m1 d = none := by
        cases d with
        | ins _ _ => simp [recvK] at hk
        | ref i =>
          simp only [recvK] at hk
          simp only [selfC]
          split at hk <;> rename_i hm <;> first | (simp at hk; done) | (rw [hm])
        | _ => rfl
      rw [hs0] at o1
      simp only [semEs] at o1
      cases h : semE P call eb ρ m1 with
      | ok x => rw [h] at o1; exact o1
      | _ => rw [h] at o1; exact o1
    have ty : ∃ a xs, v = .ref a ∧ H1 a = some (.lst xs) := by
      cases d with
      | lst ds =>
        obtain ⟨a, xs, e2, h3, _⟩ := lstOf_at rd1 rm1 (show lstOf m1 (.lst ds) = some ds from rfl)
        exact ⟨a, xs, e2, h3⟩
      | ref n =>
        simp only [recvK] at hk
        split at hk <;> first | (cases hk; done) | skip
        rename_i ys hm
        obtain ⟨a, xs, e2, h3, _⟩ := lstOf_at rd1 rm1 (show lstOf m1 (.ref n) = some ys by simp only [lstOf, hm])
        exact ⟨a, xs, e2, h3⟩
      | _ => simp [recvK] at hk
    obtain ⟨a, xs, rfl, h3⟩ := ty
    refine ⟨.inl ⟨rfl, xs, SqL.of h3⟩, ν1, ρ, m1, re.mono e1, rm1, o2.split (Rel1 := RD A) fun d2 m2 v2 ν2 H2 _ e2 rd2 rm2 o3 => ?_⟩
    have rd3 := RD.mono e2 d _ rd1
    exact append_val rd3 rd2 rm2 o3
  · exact o1.elim
end
end Rf

/-! R7: every operation; and, or, if, chains. -/
namespace Rf
open PySem PySem.Spec PyProof.Rows L2
section
variable {L : Lk} {A : Ad} {P : Prg} {call : Nat → List D → Mem → R (D × Mem)} {lev : Nat} {c : Ct} {X : Cx} {W : WX}

theorem tup_of {xs : List Expr} {k : Nat} {pos : Pos} {ces : CEs} (h : Alls X A P call W ces xs) : Both X A W (.Tuple xs k pos) (sOp P call .tup ces) := by
  refine both_of ((pe_tup h.pa).imp fun σ H Q q => ?_) rfl
  obtain ⟨ν, ρ, m, re, rm, o⟩ := q
  exact ⟨ν, ρ, m, re, rm, o.split (Rel1 := RDs A) fun ds m1 vs ν1 H1 _ e1 rd1 rm1 o1 => mkT_ok rm1 rd1 o1⟩
theorem lst_of {xs : List Expr} {fz : Bool} {pos : Pos} {ces : CEs} (h : Alls X A P call W ces xs) : Both X A W (.List xs pos) (sOp P call (.lst fz) ces) := by
  refine both_of ((pe_lst h.pa).imp fun σ H Q q => ?_) rfl
  obtain ⟨ν, ρ, m, re, rm, o⟩ := q
  exact ⟨ν, ρ, m, re, rm, o.split (Rel1 := RDs A) fun ds m1 vs ν1 H1 _ e1 rd1 rm1 o1 => mkL_ok rm1 rd1 o1⟩
theorem neg_of {a : Expr} {ea : CE} {pos : Pos} (ha : Both X A W a (semE P call ea)) : Both X A W (.UnaryOp .USub a pos) (sOp P call .neg (.cons ea .nil)) :=
  both_congr (both_of ((pe_un un_neg ha.pe).imp fun σ H Q q => op1R neg_ok σ H Q q) rfl) fun ρ m => semEs1 ea ρ m .neg
theorem ix_of (hK : A.K = X.K) {a b : Expr} {ea eb : CE} {pos : Pos} (ha : Both X A W a (semE P call ea)) (hb : Both X A W b (semE P call eb)) (hs : notSlice b = true) : Both X A W (.Subscript a b pos) (sOp P call .ix (.cons ea (.cons eb .nil))) :=
  both_congr (both_of ((pe_ix (ix_list.or ix_tup) ha.pe hb.pe (plainIx_of hs)).imp fun σ H Q q => op2R (ix_ok hK) σ H Q q) rfl) fun ρ m => semEs2 ea eb ρ m .ix
theorem back_of {fz : Bool} {a : Expr} {ea : CE} {k : Nat} {p1 p2 p3 pos : Pos} (ha : Both X A W a (semE P call ea)) : Both X A W (.Subscript a (.Slice none none (some (.UnaryOp .USub (.Constant (.int 1) k p1) p2)) p3) pos) (sOp P call (.back fz) (.cons ea .nil)) := by
  refine both_congr (f := fun ρ m => (semE P call ea ρ m).bind fun r => prim P call (.back fz) [r.1] r.2) (both_of ((pe_revL ha.pe).imp fun σ H Q q => ?_) rfl) fun ρ m => semEs1 ea ρ m _
  obtain ⟨ν, ρ, m, re, rm, o⟩ := q
  refine ⟨ν, ρ, m, re, rm, o.split (Rel1 := RD A) fun d m1 v ν1 H1 _ e1 rd1 rm1 o1 => ?_⟩
  have o2 : Out A (RD A) ν1 H1 (match lstOf m1 d with | some xs => mkL fz xs.reverse m1 | none => .bad) Q (WS W σ) := by
    cases d <;> exact o1
  split at o2
  · rename_i ds hd
    obtain ⟨b, xs, e2, h3, h4⟩ := lstOf_at rd1 rm1 hd
    exact ⟨b, xs, e2, SqL.of h3, (mkL_ok rm1 h4.reverse o2).2⟩
  · exact o2.elim
theorem slice_of {lo hi : Option Expr} {fz : Bool} {a : Expr} {f : Rf.Env → Mem → R (D × Mem)} {g h : Rf.Env → Mem → R (Option Int × Mem)} {pos p2 : Pos} {tl th : TO} (ha : PE X a (AE A W f)) (hl : PO X lo tl) (hh : PO X hi th)
    (gl : ∀ σ H (Q : Option Int → Hp → Prop), (∃ ν ρ m, RE A ν H ρ σ ∧ RM A ν H m ∧ Out A (fun _ _ a b => b = a) ν H (g ρ m) Q (WS W σ)) → tl σ H Q)
    (gh : ∀ σ H (Q : Option Int → Hp → Prop), (∃ ν ρ m, RE A ν H ρ σ ∧ RM A ν H m ∧ Out A (fun _ _ a b => b = a) ν H (h ρ m) Q (WS W σ)) → th σ H Q) :
    PE X (.Subscript a (.Slice lo hi none p2) pos) (AE A W fun ρ m => (f ρ m).bind fun r => (g ρ r.2).bind fun r2 => (h ρ r2.2).bind fun r3 => sliceOf fz r.1 r2.1 r3.1 r3.2) := by
  refine (pe_slice (sl_list.or sl_tupA) ha hl hh).imp fun σ H Q q => ?_
  obtain ⟨ν, ρ, m, re, rm, o⟩ := q
  refine ⟨ν, ρ, m, re, rm, o.split (Rel1 := RD A) fun d m1 v ν1 H1 _ e1 rd1 rm1 o1 => gl _ _ _ ⟨ν1, ρ, m1, re.mono e1, rm1, o1.split (Rel1 := fun _ _ a b => b = a) fun x m2 x' ν2 H2 _ e2 ex rm2 o2 => ?_⟩⟩
  subst ex
  refine gh _ _ _ ⟨ν2, ρ, m2, (re.mono e1).mono e2, rm2, o2.split (Rel1 := fun _ _ a b => b = a) fun y m3 y' ν3 H3 _ e3 ey rm3 o3 => ?_⟩
  subst ey
  exact slice_ok (RD.mono e3 _ _ (RD.mono e2 _ _ rd1)) rm3 o3
/-- a slice's part -/
abbrev partS (f : Rf.Env → Mem → R (D × Mem)) : Rf.Env → Mem → R (Option Int × Mem) := fun ρ m => partR (f ρ m)
theorem part_of {f : Rf.Env → Mem → R (D × Mem)} {σ : L2.St} {H : Hp} {Q : Option Int → Hp → Prop} (q : ∃ ν ρ m, RE A ν H ρ σ ∧ RM A ν H m ∧ Out A (fun _ _ a b => b = a) ν H (partS f ρ m) Q (WS W σ)) : tPart (AE A W f) σ H Q := by
  obtain ⟨ν, ρ, m, re, rm, o⟩ := q
  refine ⟨ν, ρ, m, re, rm, o.split (Rel1 := RD A) fun d m1 v ν1 H1 _ e1 rd1 rm1 o1 => ?_⟩
  cases d with
  | int i =>
    simp only [RD] at rd1
    exact ⟨i, rd1, o1 (some i) ν1 H1 (Ext.refl _ _) rfl rm1⟩
  | _ => exact (show False from o1).elim
theorem nopart_of {σ : L2.St} {H : Hp} {Q : Option Int → Hp → Prop} (q : ∃ ν ρ m, RE A ν H ρ σ ∧ RM A ν H m ∧ Out A (fun _ _ a b => b = a) ν H (R.ok ((none : Option Int), m)) Q (WS W σ)) : tNoPart σ H Q := by
  obtain ⟨ν, ρ, m, re, rm, o⟩ := q
  exact o none ν H (Ext.refl _ _) rfl rm
theorem slice0 {fz : Bool} {a : Expr} {ea : CE} {pos p2 : Pos} (ha : Both X A W a (semE P call ea)) : Both X A W (.Subscript a (.Slice none none none p2) pos) (sOp P call (.slice false false fz) (.cons ea .nil)) := by
  refine both_congr (both_of (slice_of (fz := fz) (g := fun _ m => .ok (none, m)) (h := fun _ m => .ok (none, m)) ha.pe po_none po_none (fun _ _ _ => nopart_of) (fun _ _ _ => nopart_of)) rfl) fun ρ m => ?_
  refine (semEs1 ea ρ m _).trans ?_
  cases semE P call ea ρ m with
  | ok x => obtain ⟨d, m1⟩ := x; cases d <;> rfl
  | _ => rfl
theorem slice1 {fz : Bool} {a b : Expr} {ea eb : CE} {pos p2 : Pos} (ha : Both X A W a (semE P call ea)) (hb : Both X A W b (semE P call eb)) : Both X A W (.Subscript a (.Slice (some b) none none p2) pos) (sOp P call (.slice true false fz) (.cons ea (.cons eb .nil))) := by
  refine both_congr (both_of (slice_of (fz := fz) (g := partS (semE P call eb)) (h := fun _ m => .ok (none, m)) ha.pe (po_some hb.pe) po_none (fun _ _ _ => part_of) (fun _ _ _ => nopart_of)) rfl) fun ρ m => ?_
  refine (semEs2 ea eb ρ m _).trans ?_
  cases semE P call ea ρ m with
  | ok x =>
    obtain ⟨d, m1⟩ := x
    simp only [R.bind, partS, partR]
    cases semE P call eb ρ m1 with
    | ok y => obtain ⟨d2, m2⟩ := y; cases d2 <;> rfl
    | _ => rfl
  | _ => rfl
theorem slice2 {fz : Bool} {a b : Expr} {ea eb : CE} {pos p2 : Pos} (ha : Both X A W a (semE P call ea)) (hb : Both X A W b (semE P call eb)) : Both X A W (.Subscript a (.Slice none (some b) none p2) pos) (sOp P call (.slice false true fz) (.cons ea (.cons eb .nil))) := by
  refine both_congr (both_of (slice_of (fz := fz) (g := fun _ m => .ok (none, m)) (h := partS (semE P call eb)) ha.pe po_none (po_some hb.pe) (fun _ _ _ => nopart_of) (fun _ _ _ => part_of)) rfl) fun ρ m => ?_
  refine (semEs2 ea eb ρ m _).trans ?_
  cases semE P call ea ρ m with
  | ok x =>
    obtain ⟨d, m1⟩ := x
    simp only [R.bind, partS, partR]
    cases semE P call eb ρ m1 with
    | ok y => obtain ⟨d2, m2⟩ := y; cases d2 <;> rfl
    | _ => rfl
  | _ => rfl
theorem slc_of {fz : Bool} {a b d : Expr} {ea eb ed : CE} {pos p2 : Pos} (ha : Both X A W a (semE P call ea)) (hb : Both X A W b (semE P call eb)) (hd : Both X A W d (semE P call ed)) : Both X A W (.Subscript a (.Slice (some b) (some d) none p2) pos) (semE P call (.slc fz ea eb ed)) :=
  both_congr (both_of (slice_of (fz := fz) (g := partS (semE P call eb)) (h := partS (semE P call ed)) ha.pe (po_some hb.pe) (po_some hd.pe) (fun _ _ _ => part_of) (fun _ _ _ => part_of)) rfl) fun ρ m => by
    simp only [semE]
/-- any operation -/
theorem op_of (T : LnkX L A P call lev X) (k : Cok c lev X W) {p : Prim} {e : Expr} {xs : List Expr} {ces : CEs} (hp : parts L c p e = some xs) (h : Alls X A P call W ces xs) : Both X A W e (sOp P call p ces) := by
  unfold parts at hp
  split at hp
  · cases hp; exact tup_of h
  · cases hp; exact lst_of h
  · cases hp
    obtain ⟨ea, rfl, hy, _⟩ := h.one
    exact not_of' hy
  · cases hp
    obtain ⟨ea, rfl, hy, _⟩ := h.one
    exact neg_of hy
  · split at hp
    · rename_i hs
      cases hp
      obtain ⟨ea, eb, rfl, h1, h2, _, _⟩ := h.two
      exact ix_of T.hK h1 h2 hs
    · cases hp
  · cases hp
    obtain ⟨ea, rfl, hy, _⟩ := h.one
    exact back_of hy
  · cases hp
    obtain ⟨ea, rfl, hy, _⟩ := h.one
    exact slice0 hy
  · cases hp
    obtain ⟨ea, eb, rfl, h1, h2, _, _⟩ := h.two
    exact slice1 h1 h2
  · cases hp
    obtain ⟨ea, eb, rfl, h1, h2, _, _⟩ := h.two
    exact slice2 h1 h2
  · split at hp
    · rename_i hs
      cases hp
      rw [Bool.and_eq_true, decide_eq_true_eq] at hs
      exact call_of T k hs.1 hs.2 h
    · cases hp
  · split at hp
    · rename_i hs
      cases hp
      rw [Bool.and_eq_true, decide_eq_true_eq] at hs
      exact call0_of T k hs.1 hs.2 h
    · cases hp
  · split at hp
    · rename_i hs
      cases hp
      rw [Bool.and_eq_true, decide_eq_true_eq] at hs
      exact new_of T k hs.1 hs.2 h
    · cases hp
  · split at hp
    · rename_i hs
      cases hp
      rw [Bool.and_eq_true, decide_eq_true_eq] at hs
      obtain ⟨rfl, h2⟩ := hs
      exact attr_of' T k h2 h
    · cases hp
  · split at hp
    · rename_i hs
      cases hp
      simp only [Bool.and_eq_true, decide_eq_true_eq] at hs
      obtain ⟨⟨⟨rfl, h2⟩, h3⟩, h4⟩ := hs
      exact isC_of T k h2 h3 h4 h
    · cases hp
  · split at hp
    · rename_i hs
      cases hp
      simp only [Bool.and_eq_true, decide_eq_true_eq] at hs
      obtain ⟨⟨⟨⟨rfl, h2⟩, h3⟩, h4⟩, h5⟩ := hs
      exact isI_of T k h2 h3 h4 h5 h
    · cases hp
  · split at hp
    · rename_i hs
      cases hp
      obtain ⟨ea, eb, rfl, h1, h2, _, _⟩ := h.two
      obtain ⟨r, ho, hp⟩ := binops (A := A) (P := P) (call := call) (X := X) hs
      exact binop_of ho hp h1 h2
    · cases hp
  · split at hp
    · rename_i hs
      cases hp
      rw [Bool.and_eq_true, decide_eq_true_eq] at hs
      obtain ⟨ea, eb, rfl, h1, h2, _, _⟩ := h.two
      obtain ⟨r, ho, hp, hb⟩ := compares T k hs.1
      exact compare_of ho hp h1 h2 hs.2 hb
    · cases hp
  · split at hp
    · rename_i hs
      cases hp
      rw [Bool.and_eq_true, Bool.or_eq_true, decide_eq_true_eq, decide_eq_true_eq] at hs
      obtain ⟨hs | hs, hg⟩ := hs
      · obtain ⟨id, r, h1, h2, h3, h4⟩ := bfuns T k hs
        exact bfun_of h1 h2 k hg h3 h4 h
      · obtain ⟨id, r, h1, h2, h3, h4⟩ := btyps (A := A) T hs
        exact btyp_of h1 h2 k hg h3 h4 h
    · cases hp
  · cases hp

/-! ### and, or, if, chains -/
theorem bool_whole {op : BoolOp} {xs : List Expr} {pos : Pos} {env : PySem.Env} (w1 w2 : Sem Value) : isTrue (.BoolOp op xs pos) env w1 = isTrue (.BoolOp op xs pos) env w2 := by
  cases op <;> rfl
theorem pw_of {op : BoolOp} {xs : List Expr} {pos : Pos} {t : TT} (h : PT X (.BoolOp op xs pos) t) : PW X (.BoolOp op xs pos) t := ⟨fun wh pins s σ H Q I q => by rw [bool_whole wh]; exact h.run pins s σ H Q I q⟩
theorem and_of {a b : Expr} {rest : List Expr} {pos : Pos} {ea eb : CE} (ha : Both X A W a (semE P call ea)) (hb : Both X A W (.BoolOp .And (b :: rest) pos) (semE P call eb)) : Both X A W (.BoolOp .And (a :: b :: rest) pos) (semE P call (.andE ea eb)) := by
  refine ⟨(pe_andT ha.pe hb.pe).imp fun σ H Q q => ?_, (pw_and ha.pt (pw_of hb.pt)).pt.imp fun σ H Q q => ?_⟩
  · obtain ⟨ν, ρ, m, re, rm, o⟩ := q
    simp only [semE] at o
    refine ⟨ν, ρ, m, re, rm, o.split (Rel1 := RD A) fun d m1 v ν1 H1 _ e1 rd1 rm1 o1 => ?_⟩
    dsimp only at o1
    split at o1
    · rename_i hb
      exact ⟨true, truth_at rd1 rm1 hb, ν1, ρ, m1, re.mono e1, rm1, o1⟩
    · rename_i hb
      exact ⟨false, truth_at rd1 rm1 hb, o1 _ ν1 H1 (Ext.refl _ _) rd1 rm1⟩
    · exact o1.elim
  · obtain ⟨ν, ρ, m, re, rm, o⟩ := q
    refine ⟨ν, ρ, m, re, rm, ?_⟩
    have key : tst (semE P call (.andE ea eb) ρ m) = (tst (semE P call ea ρ m)).bind fun r => if r.1 = true then tst (semE P call eb ρ r.2) else .ok (false, r.2) := by
      simp only [semE]
      cases semE P call ea ρ m with
      | ok x =>
        simp only [R.bind, tst]
        cases h : truth x.2 x.1 with
        | none => rfl
        | some k =>
          cases k with
          | true => rfl
          | false => simp only [h]; rfl
      | _ => rfl
    dsimp only at o
    rw [key] at o
    exact o.split (Rel1 := fun _ _ b c => c = b) fun b m1 b' ν1 H1 _ e1 eb rm1 o1 => by
      subst eb
      dsimp only at o1
      split
      · rename_i hb
        rw [if_pos hb] at o1
        exact ⟨ν1, ρ, m1, re.mono e1, rm1, o1⟩
      · rename_i hb
        rw [if_neg hb] at o1
        exact o1 _ ν1 H1 (Ext.refl _ _) rfl rm1
theorem or_of {a b : Expr} {rest : List Expr} {pos : Pos} {ea eb : CE} (ha : Both X A W a (semE P call ea)) (hb : Both X A W (.BoolOp .Or (b :: rest) pos) (semE P call eb)) : Both X A W (.BoolOp .Or (a :: b :: rest) pos) (semE P call (.orE ea eb)) := by
  refine ⟨(pe_orT ha.pe hb.pe).imp fun σ H Q q => ?_, (pw_or ha.pt (pw_of hb.pt)).pt.imp fun σ H Q q => ?_⟩
  · obtain ⟨ν, ρ, m, re, rm, o⟩ := q
    simp only [semE] at o
    refine ⟨ν, ρ, m, re, rm, o.split (Rel1 := RD A) fun d m1 v ν1 H1 _ e1 rd1 rm1 o1 => ?_⟩
    dsimp only at o1
    split at o1
    · rename_i hb
      exact ⟨true, truth_at rd1 rm1 hb, o1 _ ν1 H1 (Ext.refl _ _) rd1 rm1⟩
    · rename_i hb
      exact ⟨false, truth_at rd1 rm1 hb, ν1, ρ, m1, re.mono e1, rm1, o1⟩
    · exact o1.elim
  · obtain ⟨ν, ρ, m, re, rm, o⟩ := q
    refine ⟨ν, ρ, m, re, rm, ?_⟩
    have key : tst (semE P call (.orE ea eb) ρ m) = (tst (semE P call ea ρ m)).bind fun r => if r.1 = true then .ok (true, r.2) else tst (semE P call eb ρ r.2) := by
      simp only [semE]
      cases semE P call ea ρ m with
      | ok x =>
        simp only [R.bind, tst]
        cases h : truth x.2 x.1 with
        | none => rfl
        | some k =>
          cases k with
          | true => simp only [h]; rfl
          | false => rfl
      | _ => rfl
    dsimp only at o
    rw [key] at o
    exact o.split (Rel1 := fun _ _ b c => c = b) fun b m1 b' ν1 H1 _ e1 eb rm1 o1 => by
      subst eb
      dsimp only at o1
      split
      · rename_i hb
        rw [if_pos hb] at o1
        exact o1 _ ν1 H1 (Ext.refl _ _) rfl rm1
      · rename_i hb
        rw [if_neg hb] at o1
        exact ⟨ν1, ρ, m1, re.mono e1, rm1, o1⟩
theorem and_one {b : Expr} {pos : Pos} {f : Rf.Env → Mem → R (D × Mem)} (hb : Both X A W b f) : Both X A W (.BoolOp .And [b] pos) f := ⟨pe_one hb.pe, (pw_and1 hb.pt).pt⟩
theorem or_one {b : Expr} {pos : Pos} {f : Rf.Env → Mem → R (D × Mem)} (hb : Both X A W b f) : Both X A W (.BoolOp .Or [b] pos) f := ⟨pe_one hb.pe, (pw_or1 hb.pt).pt⟩
/-- a if t else b, as a test -/
theorem pt_ife {t a b : Expr} {pos : Pos} {tt ta tb : TT} (h1 : PT X t tt) (h2 : PT X a ta) (h3 : PT X b tb) : PT X (.IfExp t a b pos) (fun σ H Q => tt σ H fun k H1 => if k = true then ta σ H1 Q else tb σ H1 Q) := by
  refine ⟨fun pins s σ H Q I h => ?_⟩
  have e : PySem.isTrue (.IfExp t a b pos) X.env (eval (.IfExp t a b pos) X.env) = (do if ← PySem.isTrue t X.env (eval t X.env) then PySem.isTrue a X.env (eval a X.env) else PySem.isTrue b X.env (eval b X.env)) := rfl
  rw [e]
  refine wpAny_bind (thn (h1.run pins s σ H _ I h) fun k s1 ⟨H1, I1, q1⟩ => ?_)
  cases k with
  | true => exact h2.run pins s1 σ H1 Q I1 q1
  | false => exact h3.run pins s1 σ H1 Q I1 q1
theorem ife_of {t a b : Expr} {pos : Pos} {et ea eb : CE} (ht : Both X A W t (semE P call et)) (ha : Both X A W a (semE P call ea)) (hb : Both X A W b (semE P call eb)) : Both X A W (.IfExp t a b pos) (semE P call (.ife et ea eb)) := by
  refine ⟨(pe_ifExp ht.pt ha.pe hb.pe).imp fun σ H Q q => ?_, (pt_ife ht.pt ha.pt hb.pt).imp fun σ H Q q => ?_⟩
  · obtain ⟨ν, ρ, m, re, rm, o⟩ := q
    simp only [semE] at o
    refine ⟨ν, ρ, m, re, rm, o.split (Rel1 := fun _ _ b c => c = b) fun d m1 v ν1 H1 _ e1 eb rm1 o1 => ?_⟩
    subst eb
    dsimp only at o1
    split
    · rename_i hb
      rw [if_pos hb] at o1
      exact ⟨ν1, ρ, m1, re.mono e1, rm1, o1⟩
    · rename_i hb
      rw [if_neg hb] at o1
      exact ⟨ν1, ρ, m1, re.mono e1, rm1, o1⟩
  · obtain ⟨ν, ρ, m, re, rm, o⟩ := q
    refine ⟨ν, ρ, m, re, rm, ?_⟩
    have key : tst (semE P call (.ife et ea eb) ρ m) = (tst (semE P call et ρ m)).bind fun r => if r.1 = true then tst (semE P call ea ρ r.2) else tst (semE P call eb ρ r.2) := by
      simp only [semE]
      cases tst (semE P call et ρ m) with
      | ok x =>
        obtain ⟨k, m1⟩ := x
        cases k <;> rfl
      | _ => rfl
    dsimp only at o
    rw [key] at o
    exact o.split (Rel1 := fun _ _ b c => c = b) fun b m1 b' ν1 H1 _ e1 eb rm1 o1 => by
      subst eb
      dsimp only at o1
      split
      · rename_i hb
        rw [if_pos hb] at o1
        exact ⟨ν1, ρ, m1, re.mono e1, rm1, o1⟩
      · rename_i hb
        rw [if_neg hb] at o1
        exact ⟨ν1, ρ, m1, re.mono e1, rm1, o1⟩
theorem tst_bl {ν : Nu} {H : Hp} {Q : Bool → Hp → Prop} {E : XK} {r : R (D × Mem)} (hr : ∀ d m', r = .ok (d, m') → ∃ k, d = .bl k) (o : Out A (fun _ _ b c => c = b) ν H (tst r) Q E) : Out A (RD A) ν H r (fun x H' => ∃ k, x = .bl k ∧ Q k H') E := by
  cases r with
  | ok x =>
    obtain ⟨d, m1⟩ := x
    obtain ⟨k, rfl⟩ := hr d m1 rfl
    intro v ν1 H1 e1 rd1 rm1
    simp only [RD] at rd1
    exact ⟨k, rd1, o k ν1 H1 e1 rfl rm1⟩
  | exc c fs m' => exact o
  | bad => exact o
theorem chain_of (T : LnkX L A P call lev X) (k : Cok c lev X W) {a b d : Expr} {ea eb ed : CE} {o1 o2 : CmpOp} {p q : Prim} {pos : Pos} (hp : Rf.cmpOp p = some o1) (hq : Rf.cmpOp q = some o2) (hs : notSet d = true)
    (ha : Both X A W a (semE P call ea)) (hb : Both X A W b (semE P call eb)) (hd : Both X A W d (semE P call ed)) : Both X A W (.Compare a [o1, o2] [b, d] pos) (semE P call (.chain p q ea eb ed)) := by
  obtain ⟨r, ho, hr, hbl⟩ := compares T k hp
  obtain ⟨r', ho', hr', hbl'⟩ := compares T k hq
  have hm : lastMarks [o1, o2] [b, d] = false := notSet_mark hs
  have main : ∀ σ H Q, AE A W (semE P call (.chain p q ea eb ed)) σ H Q → tChain r r' (AE A W (semE P call ea)) (AE A W (semE P call eb)) (AE A W (semE P call ed)) σ H Q := fun σ H Q q => by
    obtain ⟨ν, ρ, m, re, rm, o⟩ := q
    simp only [semE] at o
    refine ⟨ν, ρ, m, re, rm, o.split (Rel1 := RD A) fun x m1 v ν1 H1 _ e1 rd1 rm1 o1 => ⟨ν1, ρ, m1, re.mono e1, rm1, o1.split (Rel1 := RD A) fun y m2 u ν2 H2 _ e2 rd2 rm2 o2 => ?_⟩⟩
    refine hr ν2 H2 m2 x y v u _ (WS W σ) (RD.mono e2 _ _ rd1) rd2 rm2 (o2.split (Rel1 := RD A) fun z m3 w' ν3 H3 hz e3 rd3 rm3 o3 => ?_)
    obtain ⟨kk, rfl⟩ := hbl _ _ _ _ _ hz
    simp only [RD] at rd3
    subst rd3
    refine ⟨kk, rfl, ?_⟩
    cases kk with
    | true =>
      rw [if_pos rfl]
      exact ⟨ν3, ρ, m3, ((re.mono e1).mono e2).mono e3, rm3, Out.split (Rel1 := RD A) o3 fun t m4 w4 ν4 H4 _ e4 rd4 rm4 o4 => hr' ν4 H4 m4 y t u w4 Q _ (RD.mono e4 _ _ (RD.mono e3 _ _ rd2)) rd4 rm4 o4⟩
    | false =>
      rw [if_neg Bool.false_ne_true]
      exact out_bl rm3 o3
  refine ⟨(pe_chain ho ho' ha.pe hb.pe hd.pe hm).imp main, (pt_chain ho ho' ha.pe hb.pe hd.pe hm).imp fun σ H Q q => ?_⟩
  obtain ⟨ν, ρ, m, re, rm, o⟩ := q
  refine main σ H _ ⟨ν, ρ, m, re, rm, tst_bl (fun z m' e => ?_) o⟩
  simp only [semE] at e
  cases h1 : semE P call ea ρ m with
  | ok x =>
    rw [h1] at e
    simp only [R.bind] at e
    cases h2 : semE P call eb ρ x.2 with
    | ok y =>
      rw [h2] at e
      dsimp only at e
      cases h3 : prim P call p [x.1, y.1] y.2 with
      | ok t =>
        rw [h3] at e
        dsimp only at e
        split at e
        · cases h4 : semE P call ed ρ t.2 with
          | ok w' =>
            rw [h4] at e
            exact hbl' _ _ _ _ _ e
          | _ => rw [h4] at e; cases e
        · cases e; exact ⟨_, rfl⟩
        · cases e
      | _ => rw [h3] at e; cases e
    | _ => rw [h2] at e; cases e
  | _ => rw [h1] at e; cases e
end
end Rf

/-! EnT: enumerate of a tuple, walked by a for or a comprehension. -/
namespace PySem
open Sem (wp)
set_option maxHeartbeats 1000000 in
theorem enumT_new {v : Value} {o : Obj} {Hv : Heap → Prop} (B : Begins v o Hv) :
    Meets (Builtin.«enumerate.__new__» ⟨[.type "enumerate", v], []⟩) (fun _ R s => Hv s.heap ∧
      R (.ok (.ret (.ref (s.heap.push o).objs.size))) { s with heap := (s.heap.push o).push { cls := .type "enumerate", data := .fields #[.none, .bool false, .ref s.heap.objs.size, rawInt 0, .none, .none] } }) :=
  .of_wp fun prog w A R s hq => by
    obtain ⟨hp, g, d, tk, os⟩ := s
    obtain ⟨hb, hr⟩ := hq
    have hsub := sub_enumerate
    have go : ∀ {A' : Around} {E : Value → Shared → Prop} {Q : Value → Shared → Prop}, Q (.ref hp.objs.size) ⟨hp.push o, g, d, tk, os⟩ → wpAny (model prog w) A' (pyIter v) Q E ⟨hp, g, d, tk, os⟩ :=
      fun q => B.iter prog w _ _ ⟨hp, g, d, tk, os⟩ _ hb q
    wp_walk using go
    refine wpAny_stack_any fun st => wpAny_pure ?_
    split
    · rename_i c _ _ _ _ _
      cases (c == Value.type "enumerate") <;> (wp_walk using go; exact ⟨_, rfl, hr⟩)
    · wp_walk using go
      exact ⟨_, rfl, hr⟩
section
variable {prog : Program} {w : World} {A : Around} {E : Value → Shared → Prop} {s : Shared}
theorem enumT_call {v : Value} {o : Obj} {Hv : Heap → Prop} {Q : Value → Shared → Prop} (B : Begins v o Hv) (hb : Hv s.heap)
    (hQ : ∀ h2, IsEnum h2 (s.heap.objs.size + 1) s.heap.objs.size 0 .none → h2.get? s.heap.objs.size = some o → (∀ b u, s.heap.get? b = some u → h2.get? b = some u) → Q (.ref (s.heap.objs.size + 1)) { s with heap := h2 }) :
    wpAny (model prog w) A (call (.type "enumerate") [v]) Q E s := by
  refine callType_new F.called_enumerate (by decide) (F.typeCall_enumerate_1 _) (F.newCall_enumerate_1 _) (fun u => F.args_object_init_2 u _) F.entry_enumerate_new (enumT_new B) ⟨hb, ?_⟩
  have hz : (s.heap.push o).objs.size = s.heap.objs.size + 1 := Heap.size_push ..
  show _ ∧ _
  rw [hz]
  have hn := Heap.get?_push_size (s.heap.push o) (o := { cls := .type "enumerate", data := .fields #[.none, .bool false, .ref s.heap.objs.size, rawInt 0, .none, .none] }) rfl
  rw [hz] at hn
  exact ⟨⟨_, hn, rfl⟩, hQ _ hn (Heap.get?_push_of_some _ (Heap.get?_push_size _ B.free)) fun b u e => Heap.get?_push_of_some _ (Heap.get?_push_of_some _ e)⟩
end
end PySem
namespace Rf
open PySem PySem.Spec PyProof.Rows L2
def IteT (K : PySem.W.Frag) (a : Addr) : It :=
  ⟨fun i H => ∃ (xs : List V) (x : V), SqT K H a xs ∧ xs[i]? = some x, fun i H v H' => ∃ T x, v = .ref T ∧ H T = none ∧ H' = upd H T (.tup [.int (i : Nat), x]) ∧ ∀ xs, SqT K H a xs → xs[i]? = some x, fun i H => ∃ xs : List V, SqT K H a xs ∧ xs.length = i⟩
theorem turn_enT {Pr : Program} {w : World} {K : PySem.W.Frag} {elts : List Expr} {kk : Nat} {tpos : Pos} (a e it : Addr) (hne : e ≠ it) (hta : a ≠ it) (hea : a ≠ e) :
    Turn Pr w K (.Tuple elts kk tpos) (IteT K a) [e, it] e (fun i h => (∃ old, IsEnum h e it ((i : Nat) : Int) old) ∧ h.IsTupleIter it a i) where
  mem := by simp
  obj := fun i h st b hb => by
    obtain ⟨⟨old, he⟩, ⟨o, ho, hc, hd⟩⟩ := st
    rcases (by simpa using hb : b = e ∨ b = it) with rfl | rfl
    · exact ⟨_, he, nofun⟩
    · exact ⟨o, ho, fun v q => by rw [hd] at q; cases q⟩
  keep := fun i h h' st k => ⟨⟨st.1.choose, k e (by simp) _ st.1.choose_spec⟩, st.2.at fun o q => k it (by simp) o q⟩
  item := by
    rintro X rfl rfl rfl hc i pins s σ H E I hf ⟨⟨old, he⟩, hit⟩ ⟨xs, x, hq, hx⟩
    obtain ⟨its, rv, p, hz⟩ := I.tuple hq
    obtain ⟨u, hu, ru⟩ := rv.get hx
    have hel := Heap.lt_size he
    have hil : it < s.heap.objs.size := by obtain ⟨_, q, _⟩ := hit; exact Heap.lt_size q
    have hul : i < its.toArray.size := by
      have := (List.getElem?_eq_some_iff.mp hu).1
      simpa using this
    have DT := Draws.tuple (prog := X.prog) (w := X.w) (A := X.A.in1) (I.ok.hd hc) it a hta its.toArray
    refine wpAny_pyNext_enum_itemD DT he ⟨hit, p⟩ hul hne (by simp [hne, Ne.symm hea]) fun u2 h2 tk hu2 ho hst hT hsz hk => ?_
    have eu : u2 = u := by
      have : its[i]? = some u2 := by simpa using hu2
      rw [hu] at this
      exact (Option.some.inj this).symm
    subst eu
    refine ⟨_, rfl, wpAny_letOwnedTupleGo_enum (s := { s with heap := h2, toks := tk + 1 }) ho fun h3 he' sb => ?_⟩
    have hT2 : h3.get? s.heap.objs.size = some { cls := .type "tuple", data := .seq #[.int i tk, u2] } := (sb.2 _ (Nat.ne_of_gt hel)).trans hT
    have new : ObjOk X.prog X.w (upd H s.heap.objs.size (.tup [.int (i : Nat), x])) h3 s.heap.objs.size (.tup [.int (i : Nat), x]) :=
      ⟨by show 2 ≤ sizeLine; decide, [.int i tk, u2], .cons ⟨_, rfl⟩ (.cons ru .nil), ⟨_, hT2, rfl, _, rfl⟩⟩
    have I1 : Inv X pins σ (upd H s.heap.objs.size (.tup [.int (i : Nat), x])) { s with heap := h3, toks := tk + 1 } :=
      I.turnedNew (ch := [e, it]) (fun b ob hb q => (sb.2 b (fun z => hb (by simp [z]))).trans (hk b ob (fun z => hb (by simp [z])) (fun z => hb (by simp [z])) q)) hf (Nat.le_refl _) new
    refine ⟨.ref s.heap.objs.size, _, I1, rfl, ⟨_, x, rfl, I.hok.fresh (Nat.le_refl _), rfl, fun ys hy => by rw [I.tuple_inj hy hq]; exact hx⟩, ⟨⟨u2, ?_⟩, hst.1.at fun o q => (sb.2 it (Ne.symm hne)).trans q⟩, fun b hb => ?_⟩
    · rw [show ((i + 1 : Nat) : Int) = (i : Int) + 1 from by omega]
      exact he'
    · have hb2 : b < s.heap.objs.size := by
        rcases (by simpa using hb : b = e ∨ b = it) with rfl | rfl
        · exact hel
        · exact hil
      rw [upd_ne (Nat.ne_of_lt hb2)]
      exact (hf b hb).1
  done := by
    rintro X rfl rfl rfl hc i pins s σ H E I hf ⟨⟨old, he⟩, hit⟩ ⟨xs, hq, hx⟩
    obtain ⟨its, rv, p, hz⟩ := I.tuple hq
    obtain ⟨f0, f1, f2, f3, f4, f5⟩ := hf it (by simp)
    have hl := rv.length
    have DT := Draws.tuple (prog := X.prog) (w := X.w) (A := X.A.in1) (I.ok.hd hc) it a hta its.toArray
    have en : i = its.toArray.size := by simp; omega
    rw [en] at hit
    exact wpAny_pyNext_enum_endD DT he ⟨hit, p⟩ fun h2 eb => ⟨rfl, I.turned (t' := s.toks) (fun b o hb q => eb b o hb q) f0 f1 f3 f4 f5⟩
  self := fun A i s Q E st hq => let ⟨⟨_, he⟩, _⟩ := st; wpAny_pyIter_enum he hq
def iEnT (K : PySem.W.Frag) (ta : TA) : TI := fun σ H R => ta σ H fun vs H1 => ∃ a xs, vs = [.ref a] ∧ ((SqL K H1 a xs ∧ R (Ite K a) H1) ∨ (SqT K H1 a xs ∧ R (IteT K a) H1))
theorem pi_enT {X : Cx} {e : Expr} {ta : TA} {p pos tpos : Pos} {elts : List Expr} {kk : Nat} (hg : Gl X "enumerate") (hm : X.mg "enumerate" = none) (ha : PA X [e] ta) (hs : starEach [e] X.env = [(false, eval e X.env)]) :
    PI X (.Tuple elts kk tpos) (.Call (.Name "enumerate" p) [e] [] pos) (iEnT X.K ta) := by
  refine ⟨fun pins s σ H R I hw => ?_⟩
  refine Call_ (ld_blt I hg hm boot_enumerate (callWith_type1 (thn (ha.run pos pins s σ H _ I hw) fun us s1 ⟨vs, H1, I1, r1, q1⟩ => ?_) hs rfl))
  obtain ⟨a, xs, rfl, q1⟩ := q1
  cases r1 with
  | cons r rr =>
    cases rr
    cases r
    have two : ∀ b ∈ [s1.heap.objs.size + 1, s1.heap.objs.size], FpOk X pins H1 b := fun b hb => by
      have hle : s1.heap.objs.size ≤ b := by
        rcases (by simpa using hb : b = s1.heap.objs.size + 1 ∨ b = s1.heap.objs.size) with rfl | rfl
        · exact Nat.le_add_right _ _
        · exact Nat.le_refl _
      exact I1.fpOk hle (I1.hok.fresh hle)
    rcases q1 with ⟨hq, q⟩ | ⟨hq, q⟩
    · obtain ⟨its, rv, pl, hz⟩ := I1.list hq
      refine call_enumerate_list pl.isList fun h2 he hit hsz hk => wpAny_pyIter_enum he ?_
      have I2 : Inv X pins σ H1 { s1 with heap := h2 } := I1.kept (t' := s1.toks) hk
      exact ⟨s1.heap.objs.size + 1, [s1.heap.objs.size + 1, s1.heap.objs.size], _, _, H1, rfl, I2, turn_enum a (s1.heap.objs.size + 1) s1.heap.objs.size, ⟨⟨.none, he⟩, hit, Nat.succ_ne_self _⟩, two, q⟩
    · obtain ⟨its, rv, pl, hz⟩ := I1.tuple hq
      have hal : a < s1.heap.objs.size := by obtain ⟨_, q, _⟩ := pl; exact Heap.lt_size q
      refine enumT_call (begins_tuple a its.toArray) (show s1.heap.IsTuple a its.toArray from pl) fun h2 he ho hk => wpAny_pyIter_enum he ?_
      have I2 : Inv X pins σ H1 { s1 with heap := h2 } := I1.kept (t' := s1.toks) hk
      exact ⟨s1.heap.objs.size + 1, [s1.heap.objs.size + 1, s1.heap.objs.size], _, _, H1, rfl, I2, turn_enT a (s1.heap.objs.size + 1) s1.heap.objs.size (Nat.succ_ne_self _) (Nat.ne_of_lt hal) (Nat.ne_of_lt (Nat.lt_succ_of_lt hal)), ⟨⟨.none, he⟩, ⟨_, ho, rfl, rfl⟩⟩, two, q⟩
end Rf

/-! R8: targets, walks, comprehensions; every expression. -/
namespace Rf
open PySem PySem.Spec PyProof.Rows L2

/-! ### targets -/
def AG (A : Ad) (t : CT) : TG := fun x σ H Q => ∃ ν ρ d ρ', RE A ν H ρ σ ∧ RD A ν H d x ∧ assignT t d ρ = some ρ' ∧
  ∀ σ', RE A ν H ρ' σ' → σ'.length = σ.length → (∀ own, ctIn own t = true → ∀ i, i ∉ own → σ'[i]? = σ[i]?) → Q σ' H
def AGs (A : Ad) (ts : List CT) : TGs := fun xs σ H Q => ∃ ν ρ ds ρ', RE A ν H ρ σ ∧ RDs A ν H ds xs ∧ assignTs ts ds ρ = some ρ' ∧
  ∀ σ', RE A ν H ρ' σ' → σ'.length = σ.length → (∀ own, ctIns own ts = true → ∀ i, i ∉ own → σ'[i]? = σ[i]?) → Q σ' H
theorem assignEach_of {e : Expr} {es : List Expr} {env : PySem.Env} (h : notStar e = true) : assignEach (e :: es) env = (false, assign e env) :: assignEach es env := by
  cases e <;> first | rfl | (simp [notStar] at h)
theorem assignTs_len : ∀ {ts : List CT} {ds : List D} {ρ ρ' : Rf.Env}, assignTs ts ds ρ = some ρ' → ds.length = ts.length
  | [], [], _, _, _ => rfl
  | [], _ :: _, _, _, h => by simp [assignTs] at h
  | _ :: _, [], _, _, h => by simp [assignTs] at h
  | t :: ts, d :: ds, ρ, ρ', h => by
    simp only [assignTs, Option.bind_eq_some_iff] at h
    obtain ⟨ρ1, _, h2⟩ := h
    simp [assignTs_len h2]
theorem chkTs_len : ∀ {c : Ct} {ts : List CT} {es : List Expr}, chkTs c ts es = true → ts.length = es.length
  | _, [], [], _ => rfl
  | _, [], _ :: _, h => by simp [chkTs] at h
  | _, _ :: _, [], h => by simp [chkTs] at h
  | c, t :: ts, e :: es, h => by
    simp only [chkTs, Bool.and_eq_true] at h
    simp [chkTs_len h.1.2]
theorem chkTs_each {env : PySem.Env} : ∀ {c : Ct} {ts : List CT} {es : List Expr}, chkTs c ts es = true → (assignEach es env).length = es.length ∧ (assignEach es env).findIdx? (·.1) = none
  | _, [], [], _ => ⟨rfl, rfl⟩
  | _, [], _ :: _, h => by simp [chkTs] at h
  | _, _ :: _, [], h => by simp [chkTs] at h
  | c, t :: ts, e :: es, h => by
    simp only [chkTs, Bool.and_eq_true] at h
    obtain ⟨h1, h2⟩ := chkTs_each (env := env) h.1.2
    rw [assignEach_of h.2]
    exact ⟨by simp [h1], by simp [List.findIdx?_cons, h2]⟩
/-- what the names need of the context -/
structure Tok' (c : Ct) (X : Cx) : Prop where
  N : X.N = c.N
  nd : c.N.Nodup
  sc : X.env.scope = c.sc
  fn : X.fn = c.fn
  calm : X.calm = true
section
variable {A : Ad} {c : Ct} {X : Cx}
theorem loc_of (k : Tok' c X) {i : Nat} {x : Str} (h : locB c i x = true) : X.N[i]? = some x ∧ L2.Loc X.env.scope x ∧ (X.fn x = true ∨ X.env.scope.names.lookup x = some .local) := by
  unfold locB at h
  simp only [Bool.and_eq_true, Bool.or_eq_true, decide_eq_true_eq] at h
  rw [k.N, k.fn]
  unfold L2.Loc
  rw [k.sc]
  refine ⟨h.1, ?_⟩
  rcases h.2 with z | ⟨z, w⟩
  · exact ⟨.inl z, .inr z⟩
  · exact ⟨.inr z, .inl w⟩
mutual
theorem pg_of (k : Tok' c X) : ∀ (t : CT) (e : Expr), chkT c t e = true → PG X e (AG A t)
  | .name i, e, h => by
    cases e <;> simp only [chkT, Bool.false_eq_true] at h
    obtain ⟨h1, h2, h3⟩ := loc_of k h
    refine ⟨fun pins s σ H v u Q I r q => (pg_name (by rw [k.N]; exact k.nd) h1 h2 h3).run pins s σ H v u Q I r ?_⟩
    obtain ⟨ν, ρ, d, ρ', re, rd, e1, q⟩ := q
    simp only [assignT, Option.some.injEq] at e1
    subst e1
    refine q _ (re.set i rd) (by simp) fun own ho j hj => ?_
    have hi : i ∈ own := by simpa [ctIn] using ho
    exact List.getElem?_set_ne fun z => hj (by rw [← z]; exact hi)
  | .tup ts, e, h => by
    cases e <;> simp only [chkT, Bool.false_eq_true] at h
    rename_i es x1 pos
    obtain ⟨h1, h2⟩ := chkTs_each (env := X.env) h
    refine ⟨fun pins s σ H v u Q I r q => (pg_tup k.calm (pgs_of k ts es h) h1 h2).run pins s σ H v u Q I r ?_⟩
    obtain ⟨ν, ρ, d, ρ', re, rd, e1, q⟩ := q
    cases d with
    | tup ds =>
      simp only [RD] at rd
      obtain ⟨a, xs, rfl, _, ha, rds⟩ := rd
      simp only [assignT] at e1
      refine ⟨a, xs, rfl, SqT.of ha, by rw [rds.length, assignTs_len e1, chkTs_len h], ν, ρ, ds, ρ', re, rds, e1, fun σ' re' hl ho => q σ' re' hl fun own hw => ho own (by simpa [ctIn] using hw)⟩
    | _ => simp [assignT] at e1
theorem pgs_of (k : Tok' c X) : ∀ (ts : List CT) (es : List Expr), chkTs c ts es = true → PGs X es (AGs A ts)
  | [], es, h => by
    cases es with
    | cons _ _ => simp [chkTs] at h
    | nil =>
      refine ⟨fun pins s σ H vs us Q I r q => pgs_nil.run pins s σ H vs us Q I r ?_⟩
      obtain ⟨ν, ρ, ds, ρ', re, rds, e1, q⟩ := q
      cases ds with
      | cons _ _ => simp [assignTs] at e1
      | nil =>
        simp only [assignTs, Option.some.injEq] at e1
        subst e1
        exact ⟨rds.inv0, q σ re rfl fun _ _ _ _ => rfl⟩
  | t :: ts, es, h => by
    cases es with
    | nil => simp [chkTs] at h
    | cons e es =>
      simp only [chkTs, Bool.and_eq_true] at h
      refine ⟨fun pins s σ H vs us Q I r q => (pgs_cons (pg_of k t e h.1.1) (pgs_of k ts es h.1.2) (by rw [assignEach_of h.2]; rfl)).run pins s σ H vs us Q I r ?_⟩
      obtain ⟨ν, ρ, ds, ρ', re, rds, e1, q⟩ := q
      cases ds with
      | nil => simp [assignTs] at e1
      | cons d ds =>
        obtain ⟨v, r', rfl, rd, rds'⟩ := rds.inv
        simp only [assignTs, Option.bind_eq_some_iff] at e1
        obtain ⟨ρ1, e2, e3⟩ := e1
        refine ⟨v, r', rfl, ν, ρ, d, ρ1, re, rd, e2, fun σ1 re1 hl1 ho1 => ⟨ν, ρ1, ds, ρ', re1, rds', e3, fun σ2 re2 hl2 ho2 => q σ2 re2 (hl2.trans hl1) fun own hw i hi => ?_⟩⟩
        simp only [ctIns, Bool.and_eq_true] at hw
        exact (ho2 own hw.2 i hi).trans (ho1 own hw.1 i hi)
end
end

/-! ### walks -/
structure WkJ (A : Ad) (ν : Nu) (H : Hp) (wk : Wk) (J : It) : Prop where
  stop : ∀ ν' H' m, Ex0 ν H ν' H' → RM A ν' H' m → wk.ok m = true → J.stop wk.items.length H'
  go : ∀ ν' H' m i d, Ex0 ν H ν' H' → RM A ν' H' m → wk.ok m = true → wk.items[i]? = some d → J.go i H' ∧ ∀ x H'', J.yld i H' x H'' → Ext ν' H' ν' H'' ∧ RM A ν' H'' m ∧ RD A ν' H'' d x
def AI (A : Ad) (W : WX) (f : Rf.Env → Mem → R (Wk × Mem)) : TI := fun σ H Q => ∃ ν ρ m, RE A ν H ρ σ ∧ RM A ν H m ∧ Out A (WkJ A) ν H (f ρ m) Q (WS W σ)
theorem _root_.L2.PI.imp {X : Cx} {tg e : Expr} {t t' : TI} (h : PI X tg e t) (k : ∀ σ H Q, t' σ H Q → t σ H Q) : PI X tg e t' := ⟨fun pins s σ H Q I q => h.run pins s σ H Q I (k _ _ _ q)⟩

/-- a list or a tuple -/
def iSq (K : PySem.W.Frag) (tl : TE) : TI := fun σ H R => tl σ H fun x H1 => ∃ a, x = .ref a ∧ (((∃ xs, SqL K H1 a xs) ∧ R (Itl K a) H1) ∨ ((∃ xs, SqT K H1 a xs) ∧ R (Itt K a) H1))
theorem pi_sq {X : Cx} {tg l : Expr} {tl : TE} (hl : PE X l tl) : PI X tg l (iSq X.K tl) := by
  refine ⟨fun pins s σ H R I hw => ?_⟩
  refine thn (hl.run pins s σ H _ I hw) fun v s1 ⟨x, H1, I1, r1, q1⟩ => ?_
  obtain ⟨a, e, q1⟩ := q1
  subst e
  cases r1
  have one : ∀ b ∈ [s1.heap.objs.size], FpOk X pins H1 b := fun b hb => by
    rw [List.mem_singleton] at hb
    subst hb
    exact I1.fpOk (Nat.le_refl _) (I1.hok.fresh (Nat.le_refl _))
  rcases q1 with ⟨⟨xs, hq⟩, q⟩ | ⟨⟨xs, hq⟩, q⟩
  · obtain ⟨its, rv, p, hz⟩ := I1.list hq
    exact wpAny_pyIter_list p.isList ⟨s1.heap.objs.size, [s1.heap.objs.size], _, _, H1, rfl, I1.kept (t' := s1.toks) fun b o e => Heap.get?_push_of_some _ e, turn_list a _, ⟨_, Heap.get?_push_size _ rfl, rfl, rfl⟩, one, q⟩
  · obtain ⟨its, rv, p, hz⟩ := I1.tuple hq
    exact wpAny_pyIter_tuple (show s1.heap.IsTuple a its.toArray from p) ⟨s1.heap.objs.size, [s1.heap.objs.size], _, _, H1, rfl, I1.kept (t' := s1.toks) fun b o e => Heap.get?_push_of_some _ e, turn_tuple a _, ⟨_, Heap.get?_push_size _ rfl, rfl, rfl⟩, one, q⟩

section
variable {A : Ad} {ν : Nu} {H : Hp} {m : Mem}
/-- what stands, later -/
theorem later {ν' : Nu} {H' : Hp} {m' : Mem} {d : D} {ds : List D} (e : itemsOf m d = some ds) (hs : stands d ds m' = true) : itemsOf m' d = some ds := by
  cases d with
  | ref n => simpa [stands] using hs
  | tup xs => simpa [itemsOf] using e
  | lst xs => simpa [itemsOf, lstOf] using e
  | _ => simp [itemsOf, lstOf] at e
theorem seq_kind {d : D} {ds : List D} (e : itemsOf m d = some ds) : (∃ xs, d = .tup xs) ∨ ∀ m', itemsOf m' d = lstOf m' d := by
  cases d with
  | tup xs => exact .inl ⟨xs, rfl⟩
  | _ => exact .inr fun _ => rfl
/-- the sequence at each later time -/
theorem seq_at (hK : A.K = K') {d : D} {ds : List D} {v : V} (rd : RD A ν H d v) (rm : RM A ν H m) (e : itemsOf m d = some ds) :
    ∃ a, v = .ref a ∧ ((isT d = false ∧ ∀ ν' H' m', Ex0 ν H ν' H' → RM A ν' H' m' → stands d ds m' = true → ∃ xs, SqL K' H' a xs ∧ RDs A ν' H' ds xs ∧ H' a = some (.lst xs)) ∨
      (isT d = true ∧ ∀ ν' H' m', Ex0 ν H ν' H' → RM A ν' H' m' → stands d ds m' = true → ∃ xs, SqT K' H' a xs ∧ RDs A ν' H' ds xs ∧ H' a = some (.tup xs))) := by
  rcases seq_kind e with ⟨xs, rfl⟩ | hl
  · simp only [itemsOf, Option.some.injEq] at e
    subst e
    have rd0 := rd
    simp only [RD] at rd
    obtain ⟨a, ys, rfl, h1, h2, h3⟩ := rd
    refine ⟨a, rfl, .inr ⟨rfl, fun ν' H' m' ex rm' _ => ?_⟩⟩
    have rd1 := RD.mono0 ex _ _ rd0
    simp only [RD] at rd1
    obtain ⟨a', zs, e1, _, h4, h5⟩ := rd1
    cases e1
    exact ⟨zs, SqT.of h4, h5, h4⟩
  · rw [hl m] at e
    obtain ⟨a, xs, rfl, h3, h4⟩ := lstOf_at rd rm e
    refine ⟨a, rfl, .inl ⟨by cases d <;> simp [lstOf] at e <;> rfl, fun ν' H' m' ex rm' hs => ?_⟩⟩
    have e2 : itemsOf m' d = some ds := later (ν' := ν') (H' := H') ((hl m).trans e) hs
    rw [hl m'] at e2
    obtain ⟨a', zs, e1, h5, h6⟩ := lstOf_at (RD.mono0 ex _ _ rd) rm' e2
    cases e1
    exact ⟨zs, SqL.of h5, h6, h5⟩
theorem wkj_list (hK : A.K = K') {a : Addr} {ds : List D} {ok : Mem → Bool} (h : ∀ ν' H' m', Ex0 ν H ν' H' → RM A ν' H' m' → ok m' = true → ∃ xs, SqL K' H' a xs ∧ RDs A ν' H' ds xs ∧ H' a = some (.lst xs)) : WkJ A ν H ⟨ds, ok⟩ (Itl K' a) where
  stop := fun ν' H' m' ex rm' hs => let ⟨xs, h1, h2, _⟩ := h ν' H' m' ex rm' hs; ⟨xs, h1, by rw [h2.length]; exact Nat.le_refl _⟩
  go := fun ν' H' m' i d ex rm' hs e => by
    obtain ⟨xs, h1, h2, _⟩ := h ν' H' m' ex rm' hs
    obtain ⟨v, e1, e2⟩ := h2.get e
    refine ⟨⟨xs, v, h1, e1⟩, fun x H'' y => ?_⟩
    obtain ⟨rfl, y⟩ := y
    have e3 := y xs h1
    rw [e1] at e3
    cases e3
    exact ⟨Ext.refl _ _, rm', e2⟩
theorem wkj_tup (hK : A.K = K') {a : Addr} {ds : List D} {ok : Mem → Bool} (h : ∀ ν' H' m', Ex0 ν H ν' H' → RM A ν' H' m' → ok m' = true → ∃ xs, SqT K' H' a xs ∧ RDs A ν' H' ds xs ∧ H' a = some (.tup xs)) : WkJ A ν H ⟨ds, ok⟩ (Itt K' a) where
  stop := fun ν' H' m' ex rm' hs => let ⟨xs, h1, h2, _⟩ := h ν' H' m' ex rm' hs; ⟨xs, h1, by rw [h2.length]; exact Nat.le_refl _⟩
  go := fun ν' H' m' i d ex rm' hs e => by
    obtain ⟨xs, h1, h2, _⟩ := h ν' H' m' ex rm' hs
    obtain ⟨v, e1, e2⟩ := h2.get e
    refine ⟨⟨xs, v, h1, e1⟩, fun x H'' y => ?_⟩
    obtain ⟨rfl, y⟩ := y
    have e3 := y xs h1
    rw [e1] at e3
    cases e3
    exact ⟨Ext.refl _ _, rm', e2⟩
theorem range_get {lo : Int} {n i : Nat} {d : D} (e : (rangeD lo n)[i]? = some d) : i < n ∧ d = .int (lo + i) := by
  unfold rangeD at e
  rw [List.getElem?_map] at e
  cases h : (List.range n)[i]? with
  | none => rw [h] at e; cases e
  | some k =>
    rw [h] at e
    obtain ⟨h1, h2⟩ := List.getElem?_eq_some_iff.mp h
    rw [List.getElem_range] at h2
    subst h2
    exact ⟨by simpa using h1, (Option.some.inj e).symm⟩
theorem wkj_range {lo : Int} {n : Nat} : WkJ A ν H ⟨rangeD lo n, fun _ => true⟩ (Itr lo n) where
  stop := fun _ _ _ _ _ _ => by show n ≤ (rangeD lo n).length; simp [rangeD]
  go := fun ν' H' m' i d ex rm' _ e => by
    obtain ⟨h1, rfl⟩ := range_get e
    refine ⟨h1, fun x H'' y => ?_⟩
    obtain ⟨rfl, rfl⟩ := y
    exact ⟨Ext.refl _ _, rm', by simp only [RD]⟩
theorem enum_len : ∀ (k : Nat) (ds : List D), (enumD k ds).length = ds.length
  | _, [] => rfl
  | k, d :: ds => by simp [enumD, enum_len (k + 1) ds]
theorem enum_get : ∀ {k i : Nat} {ds : List D} {d : D}, (enumD k ds)[i]? = some d → ∃ x, ds[i]? = some x ∧ d = .tup [.int ((k + i : Nat) : Int), x]
  | _, _, [], _, e => by simp [enumD] at e
  | k, 0, x :: ds, d, e => by
    simp [enumD] at e
    exact ⟨x, rfl, e.symm⟩
  | k, i + 1, x :: ds, d, e => by
    simp only [enumD, List.getElem?_cons_succ] at e
    obtain ⟨y, h1, h2⟩ := enum_get e
    exact ⟨y, by simpa using h1, by rw [h2, show k + 1 + i = k + (i + 1) by omega]⟩
/-- a new pair -/
theorem pair_new {T : Addr} {x y : V} {dx dy : D} (hT : H T = none) (rm : RM A ν H m) (rx : RD A ν H dx x) (ry : RD A ν H dy y) :
    Ext ν H ν (upd H T (.tup [x, y])) ∧ RM A ν (upd H T (.tup [x, y])) m ∧ RD A ν (upd H T (.tup [x, y])) (.tup [dx, dy]) (.ref T) :=
  ⟨Ext.same hT, rm.fresh hT, new_tup hT rm (.cons rx (.cons ry .nil))⟩
theorem wkj_enl (hK : A.K = K') {a : Addr} {ds : List D} {ok : Mem → Bool} (h : ∀ ν' H' m', Ex0 ν H ν' H' → RM A ν' H' m' → ok m' = true → ∃ xs, SqL K' H' a xs ∧ RDs A ν' H' ds xs ∧ H' a = some (.lst xs)) : WkJ A ν H ⟨enumD 0 ds, ok⟩ (Ite K' a) where
  stop := fun ν' H' m' ex rm' hs => let ⟨xs, h1, h2, _⟩ := h ν' H' m' ex rm' hs; ⟨xs, h1, by rw [enum_len, h2.length]; exact Nat.le_refl _⟩
  go := fun ν' H' m' i d ex rm' hs e => by
    obtain ⟨xs, h1, h2, _⟩ := h ν' H' m' ex rm' hs
    obtain ⟨y, e0, rfl⟩ := enum_get e
    obtain ⟨v, e1, e2⟩ := h2.get e0
    refine ⟨⟨xs, v, h1, e1⟩, fun x H'' q => ?_⟩
    obtain ⟨T, x', rfl, hT, rfl, q⟩ := q
    have e3 := q xs h1
    rw [e1] at e3
    cases e3
    rw [Nat.zero_add]
    exact pair_new hT rm' (by simp only [RD]) e2
theorem wkj_ent (hK : A.K = K') {a : Addr} {ds : List D} {ok : Mem → Bool} (h : ∀ ν' H' m', Ex0 ν H ν' H' → RM A ν' H' m' → ok m' = true → ∃ xs, SqT K' H' a xs ∧ RDs A ν' H' ds xs ∧ H' a = some (.tup xs)) : WkJ A ν H ⟨enumD 0 ds, ok⟩ (IteT K' a) where
  stop := fun ν' H' m' ex rm' hs => let ⟨xs, h1, h2, _⟩ := h ν' H' m' ex rm' hs; ⟨xs, h1, by rw [enum_len, h2.length]⟩
  go := fun ν' H' m' i d ex rm' hs e => by
    obtain ⟨xs, h1, h2, _⟩ := h ν' H' m' ex rm' hs
    obtain ⟨y, e0, rfl⟩ := enum_get e
    obtain ⟨v, e1, e2⟩ := h2.get e0
    refine ⟨⟨xs, v, h1, e1⟩, fun x H'' q => ?_⟩
    obtain ⟨T, x', rfl, hT, rfl, q⟩ := q
    have e3 := q xs h1
    rw [e1] at e3
    cases e3
    rw [Nat.zero_add]
    exact pair_new hT rm' (by simp only [RD]) e2
theorem zip_get : ∀ {i : Nat} {xs ys : List D} {d : D}, (zipD xs ys)[i]? = some d → ∃ x y, xs[i]? = some x ∧ ys[i]? = some y ∧ d = .tup [x, y]
  | _, [], _, _, e => by simp [zipD] at e
  | _, _ :: _, [], _, e => by simp [zipD] at e
  | 0, x :: xs, y :: ys, d, e => by
    simp [zipD] at e
    exact ⟨x, y, rfl, rfl, e.symm⟩
  | i + 1, x :: xs, y :: ys, d, e => by
    simp only [zipD, List.getElem?_cons_succ] at e
    obtain ⟨x', y', h1, h2, h3⟩ := zip_get e
    exact ⟨x', y', by simpa using h1, by simpa using h2, h3⟩
theorem zip_len : ∀ {xs ys : List D}, xs.length ≤ (zipD xs ys).length ∨ ys.length ≤ (zipD xs ys).length
  | [], _ => .inl (Nat.zero_le _)
  | _ :: _, [] => .inr (Nat.zero_le _)
  | x :: xs, y :: ys => by
    rcases zip_len (xs := xs) (ys := ys) with h | h
    · exact .inl (by simp [zipD, h])
    · exact .inr (by simp [zipD, h])
theorem wkj_zl (hK : A.K = K') {a b : Addr} {ds es : List D} {ok1 ok2 : Mem → Bool} (h : ∀ ν' H' m', Ex0 ν H ν' H' → RM A ν' H' m' → ok1 m' = true → ∃ xs, SqL K' H' a xs ∧ RDs A ν' H' ds xs ∧ H' a = some (.lst xs))
    (h' : ∀ ν' H' m', Ex0 ν H ν' H' → RM A ν' H' m' → ok2 m' = true → ∃ xs, SqL K' H' b xs ∧ RDs A ν' H' es xs ∧ H' b = some (.lst xs)) : WkJ A ν H ⟨zipD ds es, fun m => ok1 m && ok2 m⟩ (Itz K' a b) where
  stop := fun ν' H' m' ex rm' hs => by
    rw [Bool.and_eq_true] at hs
    obtain ⟨xs, h1, h2, _⟩ := h ν' H' m' ex rm' hs.1
    obtain ⟨ys, h3, h4, _⟩ := h' ν' H' m' ex rm' hs.2
    exact ⟨xs, ys, h1, h3, by rw [h2.length, h4.length]; exact zip_len⟩
  go := fun ν' H' m' i d ex rm' hs e => by
    rw [Bool.and_eq_true] at hs
    obtain ⟨xs, h1, h2, _⟩ := h ν' H' m' ex rm' hs.1
    obtain ⟨ys, h3, h4, _⟩ := h' ν' H' m' ex rm' hs.2
    obtain ⟨x, y, e0, e1, rfl⟩ := zip_get e
    obtain ⟨v, e2, e3⟩ := h2.get e0
    obtain ⟨u, e4, e5⟩ := h4.get e1
    refine ⟨⟨xs, ys, v, u, h1, h3, e2, e4⟩, fun z H'' q => ?_⟩
    obtain ⟨T, x', y', rfl, hT, rfl, q1, q2⟩ := q
    have e6 := q1 xs h1
    have e7 := q2 ys h3
    rw [e2] at e6
    rw [e4] at e7
    cases e6
    cases e7
    exact pair_new hT rm' e3 e5
theorem wkj_zt (hK : A.K = K') {a b : Addr} {ds es : List D} {ok1 ok2 : Mem → Bool} (h : ∀ ν' H' m', Ex0 ν H ν' H' → RM A ν' H' m' → ok1 m' = true → ∃ xs, SqT K' H' a xs ∧ RDs A ν' H' ds xs ∧ H' a = some (.tup xs))
    (h' : ∀ ν' H' m', Ex0 ν H ν' H' → RM A ν' H' m' → ok2 m' = true → ∃ xs, SqT K' H' b xs ∧ RDs A ν' H' es xs ∧ H' b = some (.tup xs)) : WkJ A ν H ⟨zipD ds es, fun m => ok1 m && ok2 m⟩ (RZ.ItzT K' a b) where
  stop := fun ν' H' m' ex rm' hs => by
    rw [Bool.and_eq_true] at hs
    obtain ⟨xs, h1, h2, _⟩ := h ν' H' m' ex rm' hs.1
    obtain ⟨ys, h3, h4, _⟩ := h' ν' H' m' ex rm' hs.2
    exact ⟨xs, ys, h1, h3, by rw [h2.length, h4.length]; exact zip_len⟩
  go := fun ν' H' m' i d ex rm' hs e => by
    rw [Bool.and_eq_true] at hs
    obtain ⟨xs, h1, h2, _⟩ := h ν' H' m' ex rm' hs.1
    obtain ⟨ys, h3, h4, _⟩ := h' ν' H' m' ex rm' hs.2
    obtain ⟨x, y, e0, e1, rfl⟩ := zip_get e
    obtain ⟨v, e2, e3⟩ := h2.get e0
    obtain ⟨u, e4, e5⟩ := h4.get e1
    refine ⟨⟨xs, ys, v, u, h1, h3, e2, e4⟩, fun z H'' q => ?_⟩
    obtain ⟨T, x', y', rfl, hT, rfl, q1, q2⟩ := q
    have e6 := q1 xs h1
    have e7 := q2 ys h3
    rw [e2] at e6
    rw [e4] at e7
    cases e6
    cases e7
    exact pair_new hT rm' e3 e5
end

section
variable {L : Lk} {A : Ad} {P : Prg} {call : Nat → List D → Mem → R (D × Mem)} {lev : Nat} {c : Ct} {X : Cx} {W : WX} {tg : Expr}
theorem over_of (T : LnkX L A P call lev X) {a : Expr} {ea : CE} (ha : Both X A W a (semE P call ea)) : PI X tg a (AI A W (semI P call (.over ea))) := by
  refine (pi_sq ha.pe).imp fun σ H Q q => ?_
  obtain ⟨ν, ρ, m, re, rm, o⟩ := q
  simp only [semI] at o
  refine ⟨ν, ρ, m, re, rm, o.split (Rel1 := RD A) fun d m1 v ν1 H1 _ e1 rd1 rm1 o1 => ?_⟩
  dsimp only [wkOver] at o1
  cases hi : itemsOf m1 d with
  | none => rw [hi] at o1; exact o1.elim
  | some ds =>
    rw [hi] at o1
    obtain ⟨b, rfl, ⟨_, hq⟩ | ⟨_, hq⟩⟩ := seq_at T.hK rd1 rm1 hi
    · have hs : stands d ds m1 = true := by cases d <;> simp [stands, hi]
      obtain ⟨xs, z, _⟩ := hq ν1 H1 m1 (Ext.refl _ _).ex0 rm1 hs
      exact ⟨b, rfl, .inl ⟨⟨xs, z⟩, o1 _ ν1 H1 (Ext.refl _ _) (wkj_list T.hK hq) rm1⟩⟩
    · have hs : stands d ds m1 = true := by cases d <;> simp [stands, hi]
      obtain ⟨xs, z, _⟩ := hq ν1 H1 m1 (Ext.refl _ _).ex0 rm1 hs
      exact ⟨b, rfl, .inr ⟨⟨xs, z⟩, o1 _ ν1 H1 (Ext.refl _ _) (wkj_tup T.hK hq) rm1⟩⟩
theorem sm62 {i : Int} (h : small62 i = true) : -(2 ^ 62) ≤ i ∧ i < 2 ^ 62 := by simpa [small62] using h
def CEs.len : CEs → Nat
  | .nil => 0
  | .cons _ es => es.len + 1
theorem semEs_len : ∀ {es : CEs} {ρ : Rf.Env} {m m' : Mem} {ds : List D}, semEs P call es ρ m = .ok (ds, m') → ds.length = es.len
  | .nil, ρ, m, m', ds, h => by
    simp only [semEs, R.ok.injEq, Prod.mk.injEq] at h
    rw [← h.1]; rfl
  | .cons e es, ρ, m, m', ds, h => by
    simp only [semEs] at h
    cases h1 : semE P call e ρ m with
    | ok x =>
      rw [h1] at h
      simp only [R.bind] at h
      cases h2 : semEs P call es ρ x.2 with
      | ok y =>
        rw [h2] at h
        simp only [R.ok.injEq, Prod.mk.injEq] at h
        rw [← h.1]
        simp [CEs.len, semEs_len (ds := y.1) (m' := y.2) h2]
      | _ => rw [h2] at h; cases h
    | _ => rw [h1] at h; cases h
theorem range_of (T : LnkX L A P call lev X) (k : Cok c lev X W) {np pos : Pos} {ys : List Expr} {ces : CEs} (hg : glB c "range" = true) (hl : (ys.length == 1 || ys.length == 2) = true) (h : Alls X A P call W ces ys) : PI X tg (.Call (.Name "range" np) ys [] pos) (AI A W (semI P call (.range ces))) := by
  obtain ⟨g1, g2, g3⟩ := gl_of k hg
  have hm : X.mg "range" = none := T.free _ (by simp [bnames])
  have main : ∀ σ H Q, AI A W (semI P call (.range ces)) σ H Q → AA A W (semEs P call ces) σ H fun vs H1 => ∃ w : Wk, ∃ ds, ds.length = ces.len ∧ wkRange ds = some w ∧ (∀ J, (∀ ν, WkJ A ν H1 w J) → Q J H1) ∧ (∃ ν, RDs A ν H1 ds vs) := fun σ H Q q => by
    obtain ⟨ν, ρ, m, re, rm, o⟩ := q
    simp only [semI] at o
    refine ⟨ν, ρ, m, re, rm, o.split (Rel1 := RDs A) fun ds m1 vs ν1 H1 he e1 rd1 rm1 o1 => ?_⟩
    dsimp only at o1
    cases hw : wkRange ds with
    | none => rw [hw] at o1; exact o1.elim
    | some w =>
      rw [hw] at o1
      exact ⟨w, ds, semEs_len he, hw, fun J hJ => o1 J ν1 H1 (Ext.refl _ _) (hJ ν1) rm1, ν1, rd1⟩
  match ys, hl with
  | [y], _ =>
    obtain ⟨ea, rfl, hy, hs⟩ := h.one
    refine (pi_range1 g1 hm h.pa (by rw [star_of hs]; rfl)).imp fun σ H Q q => ?_
    obtain ⟨ν, ρ, m, re, rm, o⟩ := main σ H Q q
    refine ⟨ν, ρ, m, re, rm, o.imp fun vs H1 z => ?_⟩
    obtain ⟨w, ds, hn, hw, hJ, ν1, rds⟩ := z
    match ds, hn with
    | [d], _ =>
      cases d <;> try (simp [wkRange] at hw; done)
      rename_i j _
      obtain ⟨x, rfl, rd⟩ := one_inv rds
      simp only [RD] at rd
      simp only [wkRange] at hw
      split at hw
      · rename_i h6
        cases hw
        exact ⟨j, by rw [rd], (sm62 h6).1, (sm62 h6).2, hJ _ fun _ => wkj_range⟩
      · cases hw
  | [y, z], _ =>
    obtain ⟨ea, eb, rfl, hy, hz, hs, hs2⟩ := h.two
    refine (pi_range2 g1 hm h.pa (by rw [star_of hs, star_of hs2]; rfl) (by rw [star_of hs2]; rfl)).imp fun σ H Q q => ?_
    obtain ⟨ν, ρ, m, re, rm, o⟩ := main σ H Q q
    refine ⟨ν, ρ, m, re, rm, o.imp fun vs H1 z => ?_⟩
    obtain ⟨w, ds, hn, hw, hJ, ν1, rds⟩ := z
    match ds, hn with
    | [d, d2], _ =>
      cases d <;> try (simp [wkRange] at hw; done)
      cases d2 <;> try (simp [wkRange] at hw; done)
      rename_i i j _
      obtain ⟨x, y, rfl, rd, rd2⟩ := two_inv rds
      simp only [RD] at rd rd2
      simp only [wkRange] at hw
      split at hw
      · rename_i h6
        cases hw
        rw [Bool.and_eq_true] at h6
        exact ⟨i, j, by rw [rd, rd2], ⟨(sm62 h6.1).1, (sm62 h6.1).2, (sm62 h6.2).1, (sm62 h6.2).2⟩, hJ _ fun _ => wkj_range⟩
      · cases hw
theorem stands_now {m : Mem} {d : D} {ds : List D} (hi : itemsOf m d = some ds) : stands d ds m = true := by cases d <;> simp [stands, hi]
theorem enum_of (T : LnkX L A P call lev X) (k : Cok c lev X W) {np pos : Pos} {y : Expr} {ea : CE} (hg : glB c "enumerate" = true) (ht : tupT tg = true) (hs : notStar y = true) (h : Both X A W y (semE P call ea)) : PI X tg (.Call (.Name "enumerate" np) [y] [] pos) (AI A W (semI P call (.enum ea))) := by
  obtain ⟨g1, g2, g3⟩ := gl_of k hg
  have hm : X.mg "enumerate" = none := T.free _ (by simp [bnames])
  cases tg <;> try (simp [tupT] at ht; done)
  refine (pi_enT g1 hm (pa_cons h.pe pa_nil (star_of hs)) (by rw [star_of hs]; rfl)).imp fun σ H Q q => ?_
  obtain ⟨ν, ρ, m, re, rm, o⟩ := q
  simp only [semI] at o
  refine ⟨ν, ρ, m, re, rm, o.split (Rel1 := RD A) fun d m1 v ν1 H1 _ e1 rd1 rm1 o1 => ?_⟩
  dsimp only [wkOver] at o1
  cases hi : itemsOf m1 d with
  | none => rw [hi] at o1; exact o1.elim
  | some ds =>
    rw [hi] at o1
    obtain ⟨b, rfl, ⟨_, hq⟩ | ⟨_, hq⟩⟩ := seq_at T.hK rd1 rm1 hi
    · obtain ⟨xs, z, _⟩ := hq ν1 H1 m1 (Ext.refl _ _).ex0 rm1 (stands_now hi)
      exact ⟨b, xs, rfl, .inl ⟨z, o1 _ ν1 H1 (Ext.refl _ _) (wkj_enl T.hK hq) rm1⟩⟩
    · obtain ⟨xs, z, _⟩ := hq ν1 H1 m1 (Ext.refl _ _).ex0 rm1 (stands_now hi)
      exact ⟨b, xs, rfl, .inr ⟨z, o1 _ ν1 H1 (Ext.refl _ _) (wkj_ent T.hK hq) rm1⟩⟩
theorem zip_of (T : LnkX L A P call lev X) (k : Cok c lev X W) {np pos : Pos} {y z : Expr} {ea eb : CE} (hg : glB c "zip" = true) (ht : tupT tg = true) (hs : notStar y = true) (hs2 : notStar z = true) (h : Both X A W y (semE P call ea)) (h' : Both X A W z (semE P call eb)) : PI X tg (.Call (.Name "zip" np) [y, z] [] pos) (AI A W (semI P call (.zip ea eb))) := by
  obtain ⟨g1, g2, g3⟩ := gl_of k hg
  have hm : X.mg "zip" = none := T.free _ (by simp [bnames])
  cases tg <;> try (simp [tupT] at ht; done)
  refine (RZ.pi_zipA g1 hm (pa_cons h.pe (pa_cons h'.pe pa_nil (star_of hs2)) (star_of hs)) (star_of hs) (stars_of (es := [z]) (by rw [List.all_cons, hs2]; rfl))).imp fun σ H Q q => ?_
  obtain ⟨ν, ρ, m, re, rm, o⟩ := q
  simp only [semI] at o
  refine ⟨ν, ρ, m, re, rm, o.split (Rel1 := RD A) fun d m1 v ν1 H1 _ e1 rd1 rm1 o1 => ⟨ν1, ρ, m1, re.mono e1, rm1, o1.split (Rel1 := RD A) fun d2 m2 v2 ν2 H2 _ e2 rd2 rm2 o2 => ?_⟩⟩
  dsimp only [wkOver] at o2
  split at o2
  · exact o2.elim
  · rename_i ht
    cases hi : itemsOf m2 d with
    | none => rw [hi] at o2; exact o2.elim
    | some ds =>
      cases hj : itemsOf m2 d2 with
      | none => rw [hi, hj] at o2; exact o2.elim
      | some es =>
        rw [hi, hj] at o2
        obtain ⟨a, rfl, ha⟩ := seq_at T.hK (RD.mono e2 _ _ rd1) rm2 hi
        obtain ⟨b, rfl, hb⟩ := seq_at T.hK rd2 rm2 hj
        rcases ha with ⟨t1, hq⟩ | ⟨t1, hq⟩ <;> rcases hb with ⟨t2, hq'⟩ | ⟨t2, hq'⟩
        · obtain ⟨xs, z, _⟩ := hq ν2 H2 m2 (Ext.refl _ _).ex0 rm2 (stands_now hi)
          obtain ⟨ys, z', _⟩ := hq' ν2 H2 m2 (Ext.refl _ _).ex0 rm2 (stands_now hj)
          exact ⟨a, b, xs, ys, rfl, .inl ⟨z, z', o2 _ ν2 H2 (Ext.refl _ _) (wkj_zl T.hK hq hq') rm2⟩⟩
        · rw [t1, t2] at ht; exact absurd rfl ht
        · rw [t1, t2] at ht; exact absurd rfl ht
        · obtain ⟨xs, z, _⟩ := hq ν2 H2 m2 (Ext.refl _ _).ex0 rm2 (stands_now hi)
          obtain ⟨ys, z', _⟩ := hq' ν2 H2 m2 (Ext.refl _ _).ex0 rm2 (stands_now hj)
          exact ⟨a, b, xs, ys, rfl, .inr ⟨z, z', o2 _ ν2 H2 (Ext.refl _ _) (wkj_zt T.hK hq hq') rm2⟩⟩
end
end Rf

/-! R9: comprehensions. -/
namespace Rf
open PySem PySem.Spec PyProof.Rows L2

theorem wipe_get {σ : L2.St} {i : Nat} : ∀ {vs : List Nat}, (wipe σ vs)[i]? = if i ∈ vs then (if i < σ.length then some none else none) else σ[i]?
  | [] => by simp [wipe]
  | v :: vs => by
    unfold wipe
    by_cases hi : v = i
    · subst hi
      rw [List.getElem?_set, wipe_length]
      simp
    · rw [List.getElem?_set_ne hi, wipe_get (vs := vs)]
      by_cases hm : i ∈ vs <;> simp [hm, Ne.symm hi]
theorem wipe_again {σ σ2 : L2.St} {vs : List Nat} (hl : σ2.length = (wipe σ vs).length) (h : ∀ i, i ∉ vs → σ2[i]? = (wipe σ vs)[i]?) : wipe σ2 vs = wipe σ vs := by
  rw [wipe_length] at hl
  refine List.ext_getElem? fun i => ?_
  rw [wipe_get, hl]
  by_cases hm : i ∈ vs
  · rw [wipe_get, if_pos hm, if_pos hm]
  · rw [if_neg hm, h i hm]

/-- a comprehension under way: its list D is no value -/
structure LE (ν1 : Nu) (H1 : Hp) (D : Addr) (ν2 : Nu) (H2 : Hp) : Prop where
  pre : ∃ t, ν2.c = ν1.c ++ t ∧ ∀ a ∈ t, H1 a = none
  dn : D ∉ ν2.c
  hid : ν2.h = D :: ν1.h
  keep : ∀ a o, H1 a = some o → a ∉ ν1.c → Kp o → H2 a = some o
  own : ∀ a x, H1 a = some (.own x) → a ∉ ν1.c → H2 a = some (.own x) ∨ H2 a = some (.xd [])
  more : ∀ a, H2 a = none → H1 a = none
section
variable {A : Ad} {ν1 ν2 ν3 : Nu} {H1 H2 H3 : Hp} {D : Addr} {m m1 m2 : Mem}
theorem LE.outc (e : LE ν1 H1 D ν2 H2) {a : Addr} {o : HO} (h : H1 a = some o) (n : a ∉ ν1.c) : a ∉ ν2.c := by
  obtain ⟨t, e1, ht⟩ := e.pre
  intro z
  rw [e1] at z
  rcases List.mem_append.mp z with z | z
  · exact n z
  · rw [ht a z] at h; cases h
theorem LE.ex0 (e : LE ν1 H1 D ν2 H2) (hD : H1 D = none) : Ex0 ν1 H1 ν2 H2 := by
  refine ⟨fun {n a} h => ?_, fun {a o} h n => ?_, fun a o h n nt => e.keep a o h (Nu.notc n) nt, fun a x h n => e.own a x h (Nu.notc n)⟩
  · obtain ⟨t, e1, _⟩ := e.pre
    rw [e1, List.getElem?_append_left (List.getElem?_eq_some_iff.mp h).1]
    exact h
  · rintro (z | z)
    · exact e.outc h (Nu.notc n) z
    · rw [e.hid] at z
      rcases List.mem_cons.mp z with rfl | z
      · rw [hD] at h; cases h
      · exact n (.inr z)
theorem LE.begin (rm : RM A ν1 H1 m) (hD : H1 D = none) (o : HO) : LE ν1 H1 D ⟨ν1.c, D :: ν1.h⟩ (upd H1 D o) ∧ RM A ⟨ν1.c, D :: ν1.h⟩ (upd H1 D o) m := by
  have l : LE ν1 H1 D ⟨ν1.c, D :: ν1.h⟩ (upd H1 D o) := by
    refine ⟨⟨[], by simp, by simp⟩, fun z => ?_, rfl, fun a o' h _ _ => by rw [upd_ne (ne_of_none h hD)]; exact h, (Ext.same (ν := ν1) hD).own, (Ext.same (ν := ν1) hD).more⟩
    obtain ⟨u, hu⟩ := rm.mem (.inl z)
    rw [hD] at hu; cases hu
  refine ⟨l, rm.len, rm.nd, fun i c a h1 h2 => ?_, fun a ha => ?_⟩
  · have hc := rm.at_ i c a h1 h2
    obtain ⟨u, hu⟩ := hc.some
    exact hc.keep (l.ex0 hD) (upd_ne (ne_of_none hu hD))
  · rcases List.mem_cons.mp ha with rfl | ha
    · exact ⟨_, upd_same⟩
    · obtain ⟨u, hu⟩ := rm.hid a ha
      exact upd_some hu
theorem LE.step (e : LE ν1 H1 D ν2 H2) (f : Ext ν2 H2 ν3 H3) {o : HO} (hD : H2 D = some o) : LE ν1 H1 D ν3 H3 := by
  refine ⟨?_, f.outc hD e.dn, f.hid.trans e.hid, fun a o h n nt => f.keep a o (e.keep a o h n nt) (e.outc h n) nt, fun a x h n => (e.own a x h n).elim (fun z => f.own a x z (e.outc h n)) fun z => .inr (f.keep a _ z (e.outc h n) trivial), fun a h => e.more a (f.more a h)⟩
  obtain ⟨t, e1, ht⟩ := e.pre
  obtain ⟨t', e2, ht'⟩ := f.pre
  refine ⟨t ++ t', by rw [e2, e1]; simp, fun a ha => ?_⟩
  rcases List.mem_append.mp ha with z | z
  · exact ht a z
  · exact e.more a (ht' a z)
theorem LE.write (e : LE ν1 H1 D ν2 H2) (hD : H1 D = none) (rm : RM A ν2 H2 m) (o : HO) : LE ν1 H1 D ν2 (upd H2 D o) ∧ RM A ν2 (upd H2 D o) m ∧ Ex0 ν2 H2 ν2 (upd H2 D o) := by
  have hm : D ∈ ν2 := .inr (by rw [e.hid]; simp)
  have x := Ex0.set (H := H2) (o := o) hm
  refine ⟨⟨e.pre, e.dn, e.hid, fun a o' h n nt => by rw [upd_ne (ne_of_none h hD)]; exact e.keep a o' h n nt, fun a x h n => by rw [upd_ne (ne_of_none h hD)]; exact e.own a x h n, fun a h => ?_⟩, ⟨rm.len, rm.nd, fun i c a h1 h2 => ?_, fun a ha => let ⟨_, z⟩ := rm.hid a ha; upd_some z⟩, x⟩
  · by_cases z : a = D
    · rw [z, upd_same] at h; cases h
    · rw [upd_ne z] at h; exact e.more a h
  · refine (rm.at_ i c a h1 h2).keep x (upd_ne ?_)
    rintro rfl
    exact e.dn (List.mem_of_getElem? h2)
theorem LE.fin (e : LE ν1 H1 D ν2 H2) (rm1 : RM A ν1 H1 m1) (hD : H1 D = none) (rm : RM A ν2 H2 m) {ds : List Rf.D} {xs : List V} (hx : H2 D = some (.lst xs)) (rd : RDs A ν2 H2 ds xs) :
    (Ext ν1 H1 ⟨ν2.c, ν1.h⟩ H2 ∧ RM A ⟨ν2.c, ν1.h⟩ H2 m ∧ RD A ⟨ν2.c, ν1.h⟩ H2 (.lst ds) (.ref D)) ∧
    (Ext ν1 H1 ⟨ν2.c ++ [D], ν1.h⟩ H2 ∧ RM A ⟨ν2.c ++ [D], ν1.h⟩ H2 (m ++ [.lst ds]) ∧ RD A ⟨ν2.c ++ [D], ν1.h⟩ H2 (.ref m.length) (.ref D)) := by
  have hh : D ∉ ν1.h := fun z => by
    obtain ⟨u, hu⟩ := rm1.hid D z
    rw [hD] at hu; cases hu
  have sub : ∀ a, a ∈ ν1.h → a ∈ ν2.h := fun a z => by rw [e.hid]; exact List.mem_cons_of_mem _ z
  have x1 : Ex0 ν2 H2 ⟨ν2.c, ν1.h⟩ H2 := ⟨fun h => h, fun {a o} _ n => by
    rintro (z | z)
    · exact n (.inl z)
    · exact n (.inr (sub a z)), fun _ _ h _ _ => h, fun _ _ h _ => .inl h⟩
  have x2 : Ex0 ν2 H2 ⟨ν2.c ++ [D], ν1.h⟩ H2 := ⟨fun {n a} h => by
      show (ν2.c ++ [D])[n]? = some a
      rw [List.getElem?_append_left (List.getElem?_eq_some_iff.mp h).1]
      exact h, fun {a o} _ n => by
    rintro (z | z)
    · rcases List.mem_append.mp z with z | z
      · exact n (.inl z)
      · rw [List.mem_singleton] at z
        subst z
        exact n (.inr (by rw [e.hid]; simp))
    · exact n (.inr (sub a z)), fun _ _ h _ _ => h, fun _ _ h _ => .inl h⟩
  refine ⟨⟨⟨e.pre, rfl, e.keep, e.own, e.more⟩, ⟨rm.len, rm.nd, fun i c a h1 h2 => (rm.at_ i c a h1 h2).keep x1 rfl, fun a z => rm.hid a (sub a z)⟩, ?_⟩, ⟨⟨?_, rfl, e.keep, e.own, e.more⟩, ⟨?_, ?_, fun i c a h1 h2 => ?_, fun a z => rm.hid a (sub a z)⟩, ?_⟩⟩
  · simp only [RD]
    exact ⟨D, xs, rfl, by
      rintro (z | z)
      · exact e.dn z
      · exact hh z, hx, RDs.mono0 x1 _ _ rd⟩
  · obtain ⟨t, e1, ht⟩ := e.pre
    refine ⟨t ++ [D], by rw [e1]; simp, fun a ha => ?_⟩
    rcases List.mem_append.mp ha with z | z
    · exact ht a z
    · rw [List.mem_singleton] at z
      rw [z]; exact hD
  · show (ν2.c ++ [D]).length = _
    simp [rm.len]
  · exact List.nodup_append.mpr ⟨rm.nd, by simp, fun a ha b hb => by rw [List.mem_singleton] at hb; rintro rfl; exact e.dn (hb ▸ ha)⟩
  · replace h2 : (ν2.c ++ [D])[i]? = some a := h2
    by_cases hi : i < m.length
    · rw [List.getElem?_append_left hi] at h1
      rw [List.getElem?_append_left (by rw [rm.len]; exact hi)] at h2
      exact (rm.at_ i c a h1 h2).keep x2 rfl
    · have ei : i = m.length := by
        have := (List.getElem?_eq_some_iff.mp h1).1
        simp at this
        omega
      subst ei
      simp at h1
      rw [← rm.len] at h2
      simp at h2
      subst h1 h2
      exact ⟨xs, hx, RDs.mono0 x2 _ _ rd⟩
  · simp only [RD]
    refine ⟨D, rfl, ?_⟩
    show (ν2.c ++ [D])[m.length]? = some D
    rw [← rm.len]
    simp
end

theorem lcL_nox {cond : Rf.Env → Mem → R (Bool × Mem)} {elt : Rf.Env → Mem → R (D × Mem)} {t : CT} {ok : Mem → Bool} {ρ : Rf.Env} : ∀ {ds : List D} {m : Mem} {c : Nat} {fs : List D} {m' : Mem}, lcL cond elt t ok ρ ds m ≠ .exc c fs m'
  | [], m, c, fs, m', h => by
    unfold lcL at h
    split at h <;> cases h
  | d :: ds, m, c, fs, m', h => by
    unfold lcL at h
    split at h
    · split at h
      · cases h1 : cond _ m with
        | ok x =>
          rw [h1] at h
          simp only [nox, R.bind] at h
          split at h
          · cases h2 : elt _ _ with
            | ok y =>
              rw [h2] at h
              simp only [nox] at h
              cases h3 : lcL cond elt t ok ρ ds y.2 with
              | exc c fs m => exact lcL_nox h3
              | _ => rw [h3] at h; cases h
            | _ => rw [h2] at h; cases h
          · exact lcL_nox h
        | _ => rw [h1] at h; cases h
      · cases h
    · cases h
/-- one turn -/
theorem lcL_cons {cond : Rf.Env → Mem → R (Bool × Mem)} {elt : Rf.Env → Mem → R (D × Mem)} {t : CT} {ok : Mem → Bool} {ρ : Rf.Env} {d : D} {ds : List D} {m : Mem} {r : List D × Mem} (h : lcL cond elt t ok ρ (d :: ds) m = .ok r) :
    ok m = true ∧ ∃ ρ1 b m1, assignT t d ρ = some ρ1 ∧ cond ρ1 m = .ok (b, m1) ∧ ((b = true ∧ ∃ y m2 rr, elt ρ1 m1 = .ok (y, m2) ∧ lcL cond elt t ok ρ ds m2 = .ok (rr, r.2) ∧ r.1 = y :: rr) ∨ (b = false ∧ lcL cond elt t ok ρ ds m1 = .ok r)) := by
  unfold lcL at h
  split at h
  · rename_i h0
    refine ⟨h0, ?_⟩
    split at h
    · rename_i ρ1 h1
      cases h2 : cond ρ1 m with
      | ok x =>
        obtain ⟨b, m1⟩ := x
        rw [h2] at h
        simp only [nox, R.bind] at h
        refine ⟨ρ1, b, m1, h1, h2, ?_⟩
        cases b with
        | true =>
          dsimp only at h
          cases h3 : elt ρ1 m1 with
          | ok y =>
            rw [h3] at h
            simp only [nox] at h
            cases h4 : lcL cond elt t ok ρ ds y.2 with
            | ok z =>
              rw [h4] at h
              simp only [R.ok.injEq] at h
              subst h
              exact .inl ⟨rfl, y.1, y.2, z.1, rfl, h4, rfl⟩
            | _ => rw [h4] at h; cases h
          | _ => rw [h3] at h; cases h
        | false => exact .inr ⟨rfl, h⟩
      | _ => rw [h2] at h; cases h
    · cases h
  · cases h

section
variable {L : Lk} {A : Ad} {P : Prg} {call : Nat → List D → Mem → R (D × Mem)} {lev : Nat} {c : Ct} {X : Cx} {W : WX}
abbrev W0 : WX := fun _ _ _ _ => False
/-- the reading of a comprehension -/
theorem tLc_of {K' : PySem.W.Frag} {fz : Bool} {own : List Nat} {t : CT} {it : CI} {ifs : CEs} {e : CE} (ho : ctIn own t = true) {σ : L2.St} {H : Hp} {Q : VK} (q : AE A W (semE P call (.lc fz own t it ifs e)) σ H Q) :
    tLc (AI A W (semI P call it)) (AG A t) (AT A W0 (semIfs P call ifs)) (AE A W0 (semE P call e)) own σ H Q := by
  obtain ⟨ν, ρ, m, re, rm, o⟩ := q
  simp only [semE] at o
  refine ⟨ν, ρ, m, re, rm, o.split (Rel1 := WkJ A) fun wk m1 J ν1 H1 _ e1 wj rm1 o1 => ?_⟩
  dsimp only at o1
  split at o1
  · rename_i hlim
    intro D hD
    generalize hlc : lcL (fun ρ' m' => semIfs P call ifs ρ' m') (fun ρ' m' => semE P call e ρ' m') t wk.ok (wipeE ρ own) wk.items m1 = r at o1
    cases r with
    | exc c fs m' => exact absurd hlc lcL_nox
    | bad => exact o1.elim
    | ok r =>
    obtain ⟨b1, b2⟩ := LE.begin (D := D) rm1 hD (.lst [])
    have rew := (re.mono e1).wipe own
    refine ⟨fun i μ H => μ = wk.items.length - i ∧ i ≤ wk.items.length ∧ ∃ ν2 m2 acc accD rD mE, LE ν1 H1 D ν2 H ∧ RM A ν2 H m2 ∧ H D = some (.lst acc) ∧ RDs A ν2 H accD acc ∧ accD.length ≤ i ∧
      lcL (fun ρ' m' => semIfs P call ifs ρ' m') (fun ρ' m' => semE P call e ρ' m') t wk.ok (wipeE ρ own) (wk.items.drop i) m2 = .ok (rD, mE) ∧ Out A (RD A) ν1 H1 (mkL fz (accD ++ rD) mE) Q (WS W σ),
      ⟨_, rfl, Nat.zero_le _, _, m1, [], [], r.1, r.2, b1, b2, upd_same, .nil, Nat.le_refl _, hlc, o1⟩, ?_⟩
    rintro i μ H ⟨rfl, hi, ν2, m2, acc, accD, rD, mE, le, rm2, hacc, rda, hla, hrun, oe⟩
    have ex := le.ex0 hD
    by_cases hlt : i < wk.items.length
    · right
      rw [List.drop_eq_getElem_cons hlt] at hrun
      obtain ⟨hok, ρ1, b, m3, ha, hb, hrest⟩ := lcL_cons hrun
      obtain ⟨hgo, hyld⟩ := wj.go ν2 H m2 i _ ex rm2 hok (List.getElem?_eq_getElem hlt)
      refine ⟨hgo, fun H => ∃ ν2 m2 acc accD rD mE, LE ν1 H1 D ν2 H ∧ RM A ν2 H m2 ∧ H D = some (.lst acc) ∧ RDs A ν2 H accD acc ∧ accD.length ≤ i + 1 ∧
        lcL (fun ρ' m' => semIfs P call ifs ρ' m') (fun ρ' m' => semE P call e ρ' m') t wk.ok (wipeE ρ own) (wk.items.drop (i + 1)) m2 = .ok (rD, mE) ∧ Out A (RD A) ν1 H1 (mkL fz (accD ++ rD) mE) Q (WS W σ),
        fun H' h' => ⟨_, Nat.sub_lt_sub_left hlt (Nat.lt_succ_self i), rfl, hlt, h'⟩, fun x H2 y => ?_⟩
      obtain ⟨f1, rm2', rdx⟩ := hyld x H2 y
      have hacc2 := f1.keep _ _ hacc le.dn trivial
      have le2 := le.step f1 hacc
      have rew2 : RE A ν2 H2 (wipeE ρ own) (wipe σ own) := ⟨rew.len, fun i d h => let ⟨v, h1, h2⟩ := rew.at_ i d h; ⟨v, h1, RD.mono0 (le2.ex0 hD) d v h2⟩⟩
      refine ⟨ν2, _, _, ρ1, rew2, rdx, ha, fun σ' re' hl' hag => ⟨wipe_again hl' (hag own ho), ν2, ρ1, m2, re', rm2', ?_⟩⟩
      dsimp only
      rw [hb]
      intro b' ν3 H3 f2 eb rm3
      dsimp only at eb
      subst eb
      have hacc3 := f2.keep _ _ hacc2 le2.dn trivial
      have le3 := le2.step f2 hacc2
      have rda3 := RDs.mono f2 _ _ (RDs.mono f1 _ _ rda)
      rcases hrest with ⟨rfl, y', m4, rr, he, hr, hcons⟩ | ⟨rfl, hr⟩
      · rw [if_pos rfl]
        refine ⟨ν3, ρ1, m3, re'.mono f2, rm3, ?_⟩
        rw [he]
        intro z ν4 H4 f3 rdz rm4
        have hacc4 := f3.keep _ _ hacc3 le3.dn trivial
        have le4 := le3.step f3 hacc3
        have rda4 := RDs.mono f3 _ _ rda3
        obtain ⟨w1, w2, w3⟩ := le4.write hD rm4 (.lst (acc ++ [z]))
        have hsz : acc.length = accD.length := rda.length
        refine ⟨acc, hacc4, by rw [sizeLine_eq]; simp only [LIM] at hlim; omega, ν4, m4, acc ++ [z], accD ++ [y'], rr, mE, w1, w2, upd_same, RDs.mono0 w3 _ _ (rda4.append (.cons rdz .nil)), by simp; exact hla, hr, ?_⟩
        dsimp only at hcons
        rw [hcons] at oe
        simpa using oe
      · rw [if_neg Bool.false_ne_true]
        exact ⟨ν3, m3, acc, accD, rD, mE, le3, rm3, hacc3, rda3, Nat.le_succ_of_le hla, hr, oe⟩
    · left
      have ei : i = wk.items.length := by omega
      subst ei
      rw [List.drop_length] at hrun
      unfold lcL at hrun
      split at hrun
      · rename_i hok
        simp only [R.ok.injEq, Prod.mk.injEq] at hrun
        obtain ⟨rfl, rfl⟩ := hrun
        refine ⟨wj.stop ν2 H m2 ex rm2 hok, ?_⟩
        rw [List.append_nil] at oe
        obtain ⟨⟨a1, a2, a3⟩, ⟨c1, c2, c3⟩⟩ := le.fin rm1 hD rm2 hacc rda
        unfold mkL at oe
        split at oe
        · cases fz with
          | true => exact oe _ _ _ a1 a3 a2
          | false => exact oe _ _ _ c1 c3 c2
        · exact oe.elim
      · cases hrun
  · exact o1.elim
end
end Rf

/-! R10: every expression that the check accepts does what the semantics says. -/
namespace Rf
open PySem PySem.Spec PyProof.Rows L2
section
variable {L : Lk} {A : Ad} {P : Prg} {call : Nat → List D → Mem → R (D × Mem)} {lev : Nat} {c : Ct} {X : Cx} {W : WX}
theorem Cok.tok (k : Cok c lev X W) : Tok' c X := ⟨k.N, k.nd, k.sc, k.fn, k.calm⟩
theorem blk_cok {scope : Scope} {own : List (Str × Nat)} (k : Cok c lev X W) (hb : blkC c.N c.sc scope own = true) (s : Shared) (H : Hp) (C : Addr) (cl : List (Str × Addr)) (fp : List Addr) : Cok (blkCt c scope) lev (X.blk s H scope (compEnvC scope cl C X.env) fp) W0 where
  N := k.N
  nd := k.nd
  sc := by
    show relS scope X.env.scope = relS scope c.sc
    rw [k.sc]
  kind := (blkOk_by hb).kind
  fn := rfl
  calm := k.calm
  room2 := k.room2
  tk := takes0
theorem glob_of (T : LnkX L A P call lev X) (k : Cok c lev X W) {i : Nat} {x : Str} {pos : Pos} (h1 : L.gname[i]? = some x) (h2 : glB c x = true) : Both X A W (.Name x pos) (semE P call (.glob i)) := by
  obtain ⟨g1, g2, g3⟩ := gl_of k h2
  obtain ⟨d, v, u, e1, e2, e3, e4⟩ := T.consts i x h1
  refine both_of ((pe_glob g1 e2 e3 g2).imp fun σ H Q q => ?_) rfl
  obtain ⟨ν, ρ, m, re, rm, o⟩ := q
  simp only [semE, e1] at o
  exact o v ν H (Ext.refl _ _) (e4 ν H) rm
mutual
theorem sndE : ∀ (ce : CE) {c : Ct} {X : Cx} {W : WX} (e : Expr), chkE L c ce e = true → Cok c lev X W → LnkX L A P call lev X → Both X A W e (semE P call ce)
  | .var i, c, X, W, e, h, k, T => by
    cases e <;> simp only [chkE, Bool.false_eq_true] at h
    exact both_of (vis_of k h) rfl
  | .const d, c, X, W, e, h, k, T => by
    simp only [chkE] at h
    exact const_of h
  | .glob i, c, X, W, e, h, k, T => by
    cases e <;> simp only [chkE, Bool.false_eq_true] at h
    rw [Bool.and_eq_true, decide_eq_true_eq] at h
    exact glob_of T k h.1 h.2
  | .op p es, c, X, W, e, h, k, T => by
    simp only [chkE] at h
    cases hp : parts L c p e with
    | none => rw [hp] at h; cases h
    | some xs =>
      rw [hp] at h
      exact both_congr (op_of T k hp (sndEs es xs h k T)) fun ρ m => by simp only [semE]
  | .andE a b, c, X, W, e, h, k, T => by
    unfold chkE at h
    split at h <;> rename_i he <;> try (cases he; done)
    all_goals try (cases h; done)
    rename_i x y rest pos
    cases he
    rw [Bool.and_eq_true] at h
    refine and_of (sndE a x h.1 k T) ?_
    cases rest with
    | nil => exact and_one (sndE b y h.2 k T)
    | cons z rest => exact sndE b _ h.2 k T
  | .orE a b, c, X, W, e, h, k, T => by
    unfold chkE at h
    split at h <;> rename_i he <;> try (cases he; done)
    all_goals try (cases h; done)
    rename_i x y rest pos
    cases he
    rw [Bool.and_eq_true] at h
    refine or_of (sndE a x h.1 k T) ?_
    cases rest with
    | nil => exact or_one (sndE b y h.2 k T)
    | cons z rest => exact sndE b _ h.2 k T
  | .ife t a b, c, X, W, e, h, k, T => by
    unfold chkE at h
    split at h <;> rename_i he <;> try (cases he; done)
    all_goals try (cases h; done)
    cases he
    rw [Bool.and_eq_true, Bool.and_eq_true] at h
    exact ife_of (sndE t _ h.1.1 k T) (sndE a _ h.1.2 k T) (sndE b _ h.2 k T)
  | .chain p q a b d, c, X, W, e, h, k, T => by
    unfold chkE at h
    split at h <;> rename_i he <;> try (cases he; done)
    all_goals try (cases h; done)
    cases he
    simp only [Bool.and_eq_true, decide_eq_true_eq] at h
    obtain ⟨⟨⟨⟨⟨h1, h2⟩, h3⟩, h4⟩, h5⟩, h6⟩ := h
    exact chain_of T k h1 h2 h3 (sndE a _ h4 k T) (sndE b _ h5 k T) (sndE d _ h6 k T)
  | .lc fz own t it ifs e', c, X, W, e, h, k, T => by
    unfold chkE at h
    split at h <;> rename_i he <;> try (cases he; done)
    all_goals try (cases h; done)
    rename_i elt tg iter ifs' kk scope pos
    cases he
    simp only [Bool.and_eq_true, decide_eq_true_eq] at h
    obtain ⟨⟨⟨⟨⟨⟨⟨⟨h1, h2⟩, h3⟩, h4⟩, h5⟩, h6⟩, h7⟩, h8⟩, h9⟩ := h
    subst h1
    have hv : (ownOf c own).map (·.2) = own := by
      unfold ownOf
      rw [List.map_map]
      exact List.map_id' own
    have ht : ∀ (s : Shared) (H : Hp) (C : Addr) (cl : List (Str × Addr)) (fp : List Addr), PTs (X.blk s H scope (compEnvC scope cl C X.env) fp) ifs' (AT A W0 (semIfs P call ifs)) := fun s H C cl fp => by
      have hall := sndEs ifs ifs' h6 (blk_cok k h2 s H C cl fp) T
      match ifs', h7, hall with
      | [], _, hall =>
        cases hall
        refine ⟨fun pins s σ H Q I q => pts_nil.run pins s σ H Q I ?_⟩
        obtain ⟨ν, ρ, m, re, rm, o⟩ := q
        simp only [semIfs] at o
        exact o true ν H (Ext.refl _ _) rfl rm
      | [x], _, hall =>
        obtain ⟨e1, rfl, hy, _⟩ := hall.one
        refine ⟨fun pins s σ H Q I q => (pts_one hy.pt).run pins s σ H Q I ?_⟩
        obtain ⟨ν, ρ, m, re, rm, o⟩ := q
        simp only [semIfs] at o
        exact ⟨ν, ρ, m, re, rm, o⟩
    refine both_of ((pe_lc k.calm (by rw [k.N]; exact k.nd) (sndI it tg iter h5 k T) (own := ownOf c own) (by rw [k.N, k.sc]; exact blkOk_by h2)
      (fun s H C cl fp => pg_of (blk_cok k h2 s H C cl fp).tok t tg h3) ht
      (fun s H C cl fp => (sndE e' elt h8 (blk_cok k h2 s H C cl fp) T).pe) (notSet_fold h9)).imp fun σ H Q q => by
        rw [hv]
        exact tLc_of (K' := X.K) h4 q) rfl
  | .meth kk n o es, c, X, W, e, h, k, T => by
    unfold chkE at h
    split at h <;> rename_i he <;> try (cases he; done)
    all_goals try (cases h; done)
    rename_i oe f ap xs cp
    cases he
    simp only [Bool.and_eq_true, decide_eq_true_eq] at h
    obtain ⟨⟨⟨⟨⟨h1, h2⟩, h3⟩, h4⟩, h5⟩, h6⟩ := h
    subst h1
    have hall := sndEs es xs h5 k T
    simp only [Bool.or_eq_true, Bool.and_eq_true, decide_eq_true_eq] at h6
    rcases h6 with ⟨⟨h6, h7⟩, h8⟩ | ⟨h6, h7⟩
    · subst h6 h7
      match xs, h8, hall with
      | [x], _, hall =>
        obtain ⟨eb, rfl, hy, hs⟩ := hall.one
        exact append_of h2 (base_of h3) (sndE o oe h4 k T) hy hs
    · subst h6
      exact meth_of T k h2 h3 h7 (sndE o oe h4 k T) hall
  | .slc fz a b d, c, X, W, e, h, k, T => by
    unfold chkE at h
    split at h <;> rename_i he <;> try (cases he; done)
    all_goals try (cases h; done)
    cases he
    rw [Bool.and_eq_true, Bool.and_eq_true] at h
    exact slc_of (sndE a _ h.1.1 k T) (sndE b _ h.1.2 k T) (sndE d _ h.2 k T)
theorem sndEs : ∀ (es : CEs) {c : Ct} {X : Cx} {W : WX} (xs : List Expr), chkEs L c es xs = true → Cok c lev X W → LnkX L A P call lev X → Alls X A P call W es xs
  | .nil, c, X, W, xs, h, k, T => by
    cases xs with
    | nil => exact .nil
    | cons _ _ => simp [chkEs] at h
  | .cons e es, c, X, W, xs, h, k, T => by
    cases xs with
    | nil => simp [chkEs] at h
    | cons x xs =>
      simp only [chkEs, Bool.and_eq_true] at h
      exact .cons (sndE e x h.1.1 k T) h.2 (sndEs es xs h.1.2 k T)
theorem sndI : ∀ (it : CI) {c : Ct} {X : Cx} {W : WX} (tg e : Expr), chkI L c it tg e = true → Cok c lev X W → LnkX L A P call lev X → PI X tg e (AI A W (semI P call it))
  | .over a, c, X, W, tg, e, h, k, T => by
    simp only [chkI] at h
    exact over_of T (sndE a e h k T)
  | .range es, c, X, W, tg, e, h, k, T => by
    unfold chkI at h
    split at h <;> rename_i he <;> try (cases he; done)
    all_goals try (cases h; done)
    rename_i x np ys pos
    cases he
    simp only [Bool.and_eq_true, decide_eq_true_eq] at h
    obtain ⟨⟨⟨h1, h2⟩, h3⟩, h4⟩ := h
    subst h1
    exact range_of T k h2 h4 (sndEs es ys h3 k T)
  | .zip a b, c, X, W, tg, e, h, k, T => by
    unfold chkI at h
    split at h <;> rename_i he <;> try (cases he; done)
    all_goals try (cases h; done)
    cases he
    simp only [Bool.and_eq_true, decide_eq_true_eq] at h
    obtain ⟨⟨⟨⟨⟨⟨h1, h2⟩, h3⟩, h4⟩, h5⟩, h6⟩, h7⟩ := h
    subst h2
    exact zip_of T k h3 h1 h6 h7 (sndE a _ h4 k T) (sndE b _ h5 k T)
  | .enum a, c, X, W, tg, e, h, k, T => by
    unfold chkI at h
    split at h <;> rename_i he <;> try (cases he; done)
    all_goals try (cases h; done)
    cases he
    simp only [Bool.and_eq_true, decide_eq_true_eq] at h
    obtain ⟨⟨⟨⟨h1, h2⟩, h3⟩, h4⟩, h5⟩ := h
    subst h2
    exact enum_of T k h3 h1 h5 (sndE a _ h4 k T)
end
/-- the parts of a comprehension -/
theorem lc_parts {fz : Bool} {own : List Nat} {t : CT} {it : CI} {ifs : CEs} {e' : CE} {e : Expr} (h : chkE L c (.lc fz own t it ifs e') e = true) (k : Cok c lev X W) (T : LnkX L A P call lev X) :
    ∃ elt tg iter ifs' scope pos, e = .ListComp elt [⟨tg, iter, ifs', 0⟩] scope pos ∧ (ownOf c own).map (·.2) = own ∧ ctIn own t = true ∧ PI X tg iter (AI A W (semI P call it)) ∧ BlkOk X.N X.env.scope scope (ownOf c own) ∧
      (∀ (s : Shared) (H : Hp) (C : Addr) (cl : List (Str × Addr)) (fp : List Addr), PG (X.blk s H scope (compEnvC scope cl C X.env) fp) tg (AG A t)) ∧
      (∀ (s : Shared) (H : Hp) (C : Addr) (cl : List (Str × Addr)) (fp : List Addr), PTs (X.blk s H scope (compEnvC scope cl C X.env) fp) ifs' (AT A W0 (semIfs P call ifs))) ∧
      (∀ (s : Shared) (H : Hp) (C : Addr) (cl : List (Str × Addr)) (fp : List Addr), PE (X.blk s H scope (compEnvC scope cl C X.env) fp) elt (AE A W0 (semE P call e'))) ∧ notSet iter = true := by
    unfold chkE at h
    split at h <;> rename_i he <;> try (cases he; done)
    all_goals try (cases h; done)
    rename_i elt tg iter ifs' kk scope pos
    cases he
    simp only [Bool.and_eq_true, decide_eq_true_eq] at h
    obtain ⟨⟨⟨⟨⟨⟨⟨⟨h1, h2⟩, h3⟩, h4⟩, h5⟩, h6⟩, h7⟩, h8⟩, h9⟩ := h
    subst h1
    have hv : (ownOf c own).map (·.2) = own := by
      unfold ownOf
      rw [List.map_map]
      exact List.map_id' own
    have ht : ∀ (s : Shared) (H : Hp) (C : Addr) (cl : List (Str × Addr)) (fp : List Addr), PTs (X.blk s H scope (compEnvC scope cl C X.env) fp) ifs' (AT A W0 (semIfs P call ifs)) := fun s H C cl fp => by
      have hall := sndEs ifs ifs' h6 (blk_cok k h2 s H C cl fp) T
      match ifs', h7, hall with
      | [], _, hall =>
        cases hall
        refine ⟨fun pins s σ H Q I q => pts_nil.run pins s σ H Q I ?_⟩
        obtain ⟨ν, ρ, m, re, rm, o⟩ := q
        simp only [semIfs] at o
        exact o true ν H (Ext.refl _ _) rfl rm
      | [x], _, hall =>
        obtain ⟨e1, rfl, hy, _⟩ := hall.one
        refine ⟨fun pins s σ H Q I q => (pts_one hy.pt).run pins s σ H Q I ?_⟩
        obtain ⟨ν, ρ, m, re, rm, o⟩ := q
        simp only [semIfs] at o
        exact ⟨ν, ρ, m, re, rm, o⟩
    exact ⟨elt, tg, iter, ifs', scope, pos, rfl, hv, h4, sndI it tg iter h5 k T, by rw [k.N, k.sc]; exact blkOk_by h2, fun s H C cl fp => pg_of (blk_cok k h2 s H C cl fp).tok t tg h3, ht,
      fun s H C cl fp => (sndE e' elt h8 (blk_cok k h2 s H C cl fp) T).pe, h9⟩
end
end Rf

/-! R11: statements. -/
namespace Rf
open PySem PySem.Spec PyProof.Rows L2

def endAt (A : Ad) (ν : Nu) (D : Ends) (σ : L2.St) (H : Hp) : Fl → Prop
  | .nx => D.nx σ H
  | .bk => D.bk σ H
  | .ct => D.ct σ H
  | .rt d => ∀ v, RD A ν H d v → D.rt v H
def OutS (A : Ad) (ν : Nu) (H : Hp) (r : RS) (D : Ends) (W : WX) : Prop := match r with
  | .ok fl ρ m => ∀ ν' H' σ', Ext ν H ν' H' → RE A ν' H' ρ σ' → RM A ν' H' m → endAt A ν' D σ' H' fl
  | .exc c fs ρ m => ∀ dx ν' H' σ', Ext ν H ν' H' → RE A ν' H' ρ σ' → RX A ν' H' c fs dx → RM A ν' H' m → W (.ref (A.ca c)) dx σ' H'
  | .bad => False
def AS (A : Ad) (W : WX) (f : Rf.Env → Mem → RS) : TS := fun D σ H => ∃ ν ρ m, RE A ν H ρ σ ∧ RM A ν H m ∧ OutS A ν H (f ρ m) D W
section
variable {A : Ad} {ν ν' : Nu} {H H' : Hp} {D : Ends} {W : WX}
theorem OutS.mono (e : Ext ν H ν' H') {r : RS} (o : OutS A ν H r D W) : OutS A ν' H' r D W := by
  cases r with
  | ok fl ρ m => exact fun ν2 H2 σ2 e2 => o ν2 H2 σ2 (e.trans e2)
  | exc c fs ρ m => exact fun dx ν2 H2 σ2 e2 => o dx ν2 H2 σ2 (e.trans e2)
  | bad => exact o
theorem lift_out {α β : Type} {Rel : Nu → Hp → α → β → Prop} {Q : β → Hp → Prop} {r : R (α × Mem)} {ρ : Rf.Env} {σ : L2.St} {k : α → Mem → RS} (re : RE A ν H ρ σ) (o : OutS A ν H (r.lift ρ k) D W)
    (h : ∀ a m v ν' H', r = .ok (a, m) → Ext ν H ν' H' → Rel ν' H' a v → RM A ν' H' m → OutS A ν' H' (k a m) D W → Q v H') : Out A Rel ν H r Q (WS W σ) := by
  cases r with
  | ok x => exact fun v ν' H' e rd rm => h x.1 x.2 v ν' H' rfl e rd rm (OutS.mono e o)
  | exc c fs m => exact fun dx ν' H' e rx rm => o dx ν' H' σ e (re.mono e) rx rm
  | bad => exact o
/-- on -/
theorem then_out {r : RS} {k : Rf.Env → Mem → RS} {N : L2.St → Hp → Prop} (o : OutS A ν H (r.andThen k) D W) (h : ∀ ρ m ν' H' σ', Ext ν H ν' H' → RE A ν' H' ρ σ' → RM A ν' H' m → OutS A ν' H' (k ρ m) D W → N σ' H') : OutS A ν H r { D with nx := N } W := by
  cases r with
  | ok fl ρ m =>
    intro ν' H' σ' e re rm
    cases fl with
    | nx => exact h ρ m ν' H' σ' e re rm (OutS.mono e o)
    | bk => exact o ν' H' σ' e re rm
    | ct => exact o ν' H' σ' e re rm
    | rt d => exact o ν' H' σ' e re rm
  | exc c fs ρ m => exact o
  | bad => exact o
theorem turn_out {r : RS} {k : Rf.Env → Mem → RS} {N : L2.St → Hp → Prop} (o : OutS A ν H (r.turn k) D W) (h : ∀ ρ m ν' H' σ', Ext ν H ν' H' → RE A ν' H' ρ σ' → RM A ν' H' m → OutS A ν' H' (k ρ m) D W → N σ' H') : OutS A ν H r { D with nx := N, ct := N, bk := D.nx } W := by
  cases r with
  | ok fl ρ m =>
    intro ν' H' σ' e re rm
    cases fl with
    | nx => exact h ρ m ν' H' σ' e re rm (OutS.mono e o)
    | bk => exact o ν' H' σ' e re rm
    | ct => exact h ρ m ν' H' σ' e re rm (OutS.mono e o)
    | rt d => exact o ν' H' σ' e re rm
  | exc c fs ρ m => exact o
  | bad => exact o
theorem ok_out {fl : Fl} {ρ : Rf.Env} {m : Mem} {σ : L2.St} (o : OutS A ν H (.ok fl ρ m) D W) (re : RE A ν H ρ σ) (rm : RM A ν H m) : endAt A ν D σ H fl := o ν H σ (Ext.refl _ _) re rm
end

section
variable {L : Lk} {A : Ad} {P : Prg} {call : Nat → List D → Mem → R (D × Mem)} {lev : Nat} {c : Ct} {X : Cx} {W : WX}
/-! ### loops -/
theorem while_out {t : Expr} {b : List Stmt} {pos : Pos} {cond : Rf.Env → Mem → R (Bool × Mem)} {body : Rf.Env → Mem → RS} (hp : PassesOwn (model X.prog X.w) X.A X.env X.xe) (hc : PT X t (AT A W cond)) (hb : PSs X b (AS A W body)) (n : Nat) :
    PS X (.While t b [] pos) (AS A W fun ρ m => whileN cond body n ρ m) := by
  refine (ps_while hp hc hb).imp fun D σ H q => ?_
  refine ⟨fun n σ H => AS A W (fun ρ m => whileN cond body n ρ m) D σ H, ⟨n, q⟩, ?_⟩
  rintro n σ H ⟨ν, ρ, m, re, rm, o⟩
  cases n with
  | zero => exact o.elim
  | succ n =>
    simp only [whileN] at o
    refine ⟨ν, ρ, m, re, rm, lift_out (Rel := fun _ _ b c => c = b) re o fun k m1 k' ν1 H1 _ e1 ek rm1 o1 => ?_⟩
    subst ek
    cases k' with
    | true =>
      rw [if_pos rfl] at o1
      rw [if_pos rfl]
      exact ⟨fun σ H => AS A W (fun ρ m => whileN cond body n ρ m) D σ H, fun σ' H' h => ⟨n, Nat.lt_succ_self n, h⟩, ν1, ρ, m1, re.mono e1, rm1, turn_out o1 fun ρ' m' ν' H' σ' _ re' rm' o' => ⟨ν', ρ', m', re', rm', o'⟩⟩
    | false =>
      rw [if_neg Bool.false_ne_true] at o1
      rw [if_neg Bool.false_ne_true]
      exact ok_out o1 (re.mono e1) rm1
theorem for_out {tg iter : Expr} {b : List Stmt} {pos : Pos} {t : CT} {f : Rf.Env → Mem → R (Wk × Mem)} {body : Rf.Env → Mem → RS} (hp : PassesOwn (model X.prog X.w) X.A X.env X.xe) (hc : X.calm = true) (hi : PI X tg iter (AI A W f)) (hg : PG X tg (AG A t)) (hb : PSs X b (AS A W body)) (hs : notSet iter = true) :
    PS X (.For tg iter b [] pos) (AS A W fun ρ m => (f ρ m).lift ρ fun w m' => forL body t w.ok w.items ρ m') := by
  refine (ps_for hp hc hi hg hb (notSet_fold hs)).imp fun D σ H q => ?_
  obtain ⟨ν, ρ, m, re, rm, o⟩ := q
  refine ⟨ν, ρ, m, re, rm, lift_out (Rel := WkJ A) re o fun wk m1 J ν1 H1 _ e1 wj rm1 o1 => ?_⟩
  refine ⟨fun i μ σ H => μ = wk.items.length - i ∧ i ≤ wk.items.length ∧ ∃ ν2 ρ2 m2, Ext ν1 H1 ν2 H ∧ RE A ν2 H ρ2 σ ∧ RM A ν2 H m2 ∧ OutS A ν2 H (forL body t wk.ok (wk.items.drop i) ρ2 m2) D W,
    ⟨_, rfl, Nat.zero_le _, ν1, ρ, m1, Ext.refl _ _, re.mono e1, rm1, o1⟩, ?_⟩
  rintro i μ σ H ⟨rfl, hi, ν2, ρ2, m2, e2, re2, rm2, o2⟩
  by_cases hlt : i < wk.items.length
  · rw [List.drop_eq_getElem_cons hlt] at o2
    unfold forL at o2
    split at o2
    · rename_i hok
      split at o2
      · rename_i ρ3 ha
        obtain ⟨hgo, hyld⟩ := wj.go ν2 H m2 i _ e2.ex0 rm2 hok (List.getElem?_eq_getElem hlt)
        refine .inr ⟨hgo, fun σ H => ∃ ν2 ρ2 m2, Ext ν1 H1 ν2 H ∧ RE A ν2 H ρ2 σ ∧ RM A ν2 H m2 ∧ OutS A ν2 H (forL body t wk.ok (wk.items.drop (i + 1)) ρ2 m2) D W,
          fun σ' H' h' => ⟨_, Nat.sub_lt_sub_left hlt (Nat.lt_succ_self i), rfl, hlt, h'⟩, fun x H2 y => ?_⟩
        obtain ⟨f1, rm2', rdx⟩ := hyld x H2 y
        refine ⟨ν2, ρ2, _, ρ3, re2.mono f1, rdx, ha, fun σ' re' _ _ => ⟨ν2, ρ3, m2, re', rm2', turn_out (OutS.mono f1 o2) fun ρ4 m4 ν4 H4 σ4 e4 re4 rm4 o4 => ⟨ν4, ρ4, m4, (e2.trans f1).trans e4, re4, rm4, o4⟩⟩⟩
      · exact o2.elim
    · exact o2.elim
  · have ei : i = wk.items.length := by omega
    subst ei
    rw [List.drop_length] at o2
    unfold forL at o2
    split at o2
    · rename_i hok
      exact .inl ⟨wj.stop ν2 H m2 e2.ex0 rm2 hok, ok_out o2 re2 rm2⟩
    · exact o2.elim

/-! ### stores -/
theorem swap_eq {env : PySem.Env} {ts vs : List Expr} {k k2 : Nat} {p p2 : Pos} {r : Option (List Str)} (hk : env.scope.kind = .function) (h : swapNames env.scope ts vs = some r) : swappedStores [.Tuple ts k p] (.Tuple vs k2 p2) env = pure r := by
  have hb : env.blockKind = .function := by unfold PySem.Env.blockKind; rw [hk]; rfl
  have h0 : (env.blockKind != .function) = false := by rw [hb]; rfl
  unfold swappedStores
  unfold swapNames at h
  simp only [h0, Bool.or_false]
  split at h
  · rename_i h1
    cases h
    exact if_pos h1
  · rename_i h1
    refine (if_neg h1).trans ?_
    split at h
    · rename_i h2
      cases h
      exact if_pos h2
    · rename_i h2
      refine (if_neg h2).trans ?_
      dsimp only at h
      split at h
      · rename_i h3
        cases h
        exact if_pos h3
      · rename_i h3
        refine (if_neg h3).trans ?_
        split at h
        · rename_i h4
          cases h
          exact if_pos h4
        · rename_i h4
          refine (if_neg h4).trans ?_
          split at h
          · cases h
          · rename_i h5
            cases h
            exact if_neg h5
theorem stores_name {y : Str} {py : Pos} {v : Expr} {env : PySem.Env} : swappedStores [.Name y py] v env = pure none := by
  cases v <;> rfl
theorem stores_sub {o i : Expr} {p : Pos} {v : Expr} {env : PySem.Env} : swappedStores [.Subscript o i p] v env = pure none := by
  cases v <;> rfl
def notTup : Expr → Bool
  | .Tuple _ _ _ => false
  | _ => true
theorem stores_tup {ts : List Expr} {k : Nat} {p : Pos} {v : Expr} {env : PySem.Env} (h : notTup v = true) : swappedStores [.Tuple ts k p] v env = pure none := by
  cases v <;> first | rfl | (simp [notTup] at h)
theorem swaps_name {elt : Expr} {gs : List Comprehension} {scope : Scope} {pos py : Pos} {y : Str} {l : Nat} {env : PySem.Env} (hk : env.scope.kind = .function) (h : (decide (env.scope.names.lookup y = some .local) && (py.line == pos.line) && !(scope.names.any fun (n, k) => n == y && (k == .local || k == .cell))) = false) :
    swapsWith (.ListComp elt gs scope pos) (some (.Name y py)) l env = pure false := by
  have hb : env.blockKind = .function := by unfold PySem.Env.blockKind; rw [hk]; rfl
  have hd : (env.kindOf y == some .local) = decide (env.scope.names.lookup y = some .local) := by
    show (env.scope.names.lookup y == some .local) = _
    by_cases z : env.scope.names.lookup y = some .local
    · rw [z]; rfl
    · rw [decide_eq_false z]
      exact beq_eq_false_iff_ne.mpr z
  have e : swapsWith (.ListComp elt gs scope pos) (some (.Name y py)) l env = pure (env.blockKind == .function && env.kindOf y == some .local && py.line == pos.line && !(scope.names.any fun (n, k) => n == y && (k == .local || k == .cell))) := rfl
  rw [e, hb, hd]
  exact congrArg pure (by rw [← h]; rfl)
theorem asg_none {tg v : Expr} {env : PySem.Env} (hs : env.scope = c.sc) (hf : c.sc.kind = .function) {t : CT} (ht : chkT c t tg = true) (h : asgB c tg v = true) {l : Nat} :
    swapsWithSole [tg] v l env = pure false ∧ swappedStores [tg] v env = pure none ∧ (assignEach [tg] env).map (·.2) = [assign tg env] := by
  have hk : env.scope.kind = .function := by rw [hs]; exact hf
  cases tg with
  | Name y py =>
    refine ⟨?_, stores_name, rfl⟩
    show swapsWith v (some (.Name y py)) l env = pure false
    by_cases hv : notComp v = true
    · exact swaps_of hv
    · cases v <;> try (exact absurd rfl hv)
      · simp only [asgB, lcSwap, Bool.not_eq_true'] at h
        exact swaps_name hk (by rw [hs]; exact h)
      · simp [asgB] at h
      · simp [asgB] at h
  | Tuple ts k p =>
    refine ⟨?_, ?_, rfl⟩
    · show swapsWith v (some (.Tuple ts k p)) l env = pure false
      by_cases hv : notComp v = true
      · exact swaps_of hv
      · cases v <;> try (exact absurd rfl hv)
        · rfl
        · rfl
        · rfl
    · by_cases hv : notTup v = true
      · exact stores_tup hv
      · cases v <;> try (exact absurd rfl hv)
        simp only [asgB, decide_eq_true_eq] at h
        exact swap_eq hk (by rw [hs]; exact h)
  | _ => cases t <;> simp [chkT] at ht
theorem assign_out {tg e : Expr} {pos : Pos} {t : CT} {ce : CE} (k : Cok c lev X W) (hb : Both X A W e (semE P call ce)) (ht : chkT c t tg = true) (ha : asgB c tg e = true) : PS X (.Assign [tg] e pos) (AS A W (semS P call (.assign t ce))) := by
  obtain ⟨h1, h2, h3⟩ := asg_none (env := X.env) k.sc k.kind ht ha (l := pos.line)
  refine (ps_asg hb.pe (pg_of (A := A) k.tok t tg ht) h1 h2 h3).imp fun D σ H q => ?_
  obtain ⟨ν, ρ, m, re, rm, o⟩ := q
  simp only [semS] at o
  refine ⟨ν, ρ, m, re, rm, lift_out (Rel := RD A) re o fun d m1 v ν1 H1 _ e1 rd rm1 o1 => ?_⟩
  split at o1
  · rename_i ρ1 h4
    exact ⟨ν1, ρ, d, ρ1, re.mono e1, rd, h4, fun σ' re' _ _ => ok_out o1 re' rm1⟩
  · exact o1.elim
/-- name = [..], stored as it is built -/
theorem setLc_out (T : LnkX L A P call lev X) {tg x : Expr} {pos : Pos} {t : CT} {ce : CE} (k : Cok c lev X W) (h : chkE L c ce x = true) (ht : chkT c t tg = true) (ha : lcSwap c tg x = true) (hl : isLc ce = true) : PS X (.Assign [tg] x pos) (AS A W (semS P call (.assign t ce))) := by
  cases ce <;> try (cases hl; done)
  rename_i fz own t' it ifs e'
  obtain ⟨elt, tg', iter, ifs', scope, vp, rfl, hv, h4, h5, h6, h7, h8, h9, h10⟩ := lc_parts h k T
  cases tg <;> try (cases ha; done)
  rename_i y py
  simp only [lcSwap, Bool.and_eq_true, decide_eq_true_eq, Bool.not_eq_true'] at ha
  obtain ⟨⟨ha1, ha2⟩, ha3⟩ := ha
  cases t with
  | tup _ => simp [chkT] at ht
  | name i =>
  simp only [chkT] at ht
  obtain ⟨l1, l2, l3⟩ := loc_of k.tok ht
  have hy : X.env.scope.names.lookup y = some .local := by rw [k.sc]; exact ha1
  refine (ps_setLc k.calm (by rw [k.N]; exact k.nd) l1 hy (sw_true (by rw [k.sc]; exact k.kind) hy ha2 ha3) h5 h6 h7 h8 h9 (notSet_fold h10)).imp fun D σ H q => ?_
  obtain ⟨ν, ρ, m, re, rm, o⟩ := q
  simp only [semS] at o
  rw [hv]
  refine tLc_of (K' := X.K) (fz := fz) h4 ⟨ν, ρ, m, re, rm, lift_out (Rel := RD A) re o fun d m1 v ν1 H1 _ e1 rd rm1 o1 => ?_⟩
  simp only [assignT] at o1
  exact ok_out o1 ((re.mono e1).set i rd) rm1
def AugOk (A : Ad) (p : Prim) (r : R2) : Prop :=
  ∀ (ν : Nu) (H : Hp) (m : Mem) (a b : D) (x y : V) (Q : VK) (E : XK), RD A ν H a x → RD A ν H b y → RM A ν H m → Out A (RD A) ν H (augOf p a b m) Q E → r x y H Q
theorem augs {p : Prim} {op : Operator} (h : Rf.binOp p = some op) (hq : augP p = true) : ∃ r, PIp X op r ∧ AugOk A p r := by
  cases p <;> simp only [Rf.binOp, Option.some.injEq, reduceCtorEq] at h <;> subst h <;> try (cases hq; done)
  · refine ⟨_, (iop_addL.or iop_ext : OpR X (inplaceOp .Add) _), ?_⟩
    intro ν H m a b x y Q E ra rb rm o
    unfold augOf at o
    split at o <;> rename_i hp <;> try (cases hp; done)
    · simp only [RD] at ra rb
      exact .inl (.inl ⟨_, _, ra, rb, out_int rm o⟩)
    · split at o
      · rename_i hl
        simp only [RD] at ra rb
        exact .inl (.inr ⟨_, _, ra, rb, lim_line hl, out_same (by simp only [RD]) rm o⟩)
      · exact o.elim
    · rename_i n
      split at o
      · rename_i xs ys hm hb
        split at o
        · rename_i hl
          obtain ⟨a2, us, rfl, h3, h4⟩ := lstOf_at rb rm hb
          obtain ⟨a1, hn, vs, h5, h6⟩ := rm.get hm
          have ra' := ra
          simp only [RD] at ra
          obtain ⟨a1', rfl, hn'⟩ := ra
          rw [hn] at hn'
          cases hn'
          have hc : a1 ∈ ν.c := List.mem_of_getElem? hn
          have ex := Ext.set (H := H) (o := .lst (vs ++ us)) hc
          refine .inr ⟨a1, a2, vs, us, rfl, rfl, h5, h3, by rw [h6.length, h4.length]; exact lim_line hl, ?_⟩
          exact o _ ν _ ex (RD.mono ex _ _ ra') (rm.set hn ⟨vs ++ us, upd_same, RDs.mono ex _ _ (h6.append h4)⟩)
        · exact o.elim
      · exact o.elim
    · exact o.elim
  · refine ⟨_, (iop_sub : OpR X (inplaceOp .Sub) _), fun ν H m a b x y Q E ra rb rm o => ?_⟩
    unfold augOf at o
    split at o <;> rename_i hp <;> try (cases hp; done)
    · simp only [RD] at ra rb
      exact ⟨_, _, ra, rb, out_int rm o⟩
    · exact o.elim
  · refine ⟨_, (iop_fdivW : OpR X (inplaceOp .FloorDiv) _), fun ν H m a b x y Q E ra rb rm o => ?_⟩
    unfold augOf at o
    split at o <;> rename_i hp <;> try (cases hp; done)
    · split at o
      · rename_i hz
        simp only [RD] at ra rb
        exact ⟨_, _, ra, rb, ⟨hz.1, Nat.lt_trans (Sm_log hz.2) (by decide)⟩, out_int rm o⟩
      · exact o.elim
    · exact o.elim
  · refine ⟨_, (iop_mod : OpR X (inplaceOp .Mod) _), fun ν H m a b x y Q E ra rb rm o => ?_⟩
    unfold augOf at o
    split at o <;> rename_i hp <;> try (cases hp; done)
    · split at o
      · rename_i hz
        simp only [RD] at ra rb
        exact ⟨_, _, ra, rb, hz, out_int rm o⟩
      · exact o.elim
    · exact o.elim
theorem set_ix {o i : Expr} {p : Pos} {env : PySem.Env} (h : notSlice i = true) : ∀ v, assign (.Subscript o i p) env v = (do
    let ov ← holding [v] (eval o env)
    let iv ← holding [v, ov] (eval i env)
    standAt p
    holding [v, ov, iv] (setItem ov iv v)
    release [v, ov, iv] []) := by
  intro v
  cases i <;> first | rfl | (simp [notSlice] at h)
theorem aug_out {i : Nat} {x : Str} {p : Prim} {op : Operator} {e : Expr} {ce : CE} {pos np : Pos} (k : Cok c lev X W) (hl : locB c i x = true) (ho : Rf.binOp p = some op) (hq : augP p = true) (hb : Both X A W e (semE P call ce)) : PS X (.AugAssign (.Name x np) op e pos) (AS A W (semS P call (.aug i p ce))) := by
  obtain ⟨l1, l2, l3⟩ := loc_of k.tok hl
  obtain ⟨r, h1, h2⟩ := augs (A := A) (X := X) ho hq
  refine (ps_aug (by rw [k.N]; exact k.nd) l1 l2 hb.pe h1 l3).imp fun D σ H q => ?_
  obtain ⟨ν, ρ, m, re, rm, o⟩ := q
  simp only [semS] at o
  split at o
  · rename_i d hd
    obtain ⟨v, e1, e2⟩ := re.at_ i d hd
    refine ⟨v, e1, ν, ρ, m, re, rm, (lift_out (Rel := RD A) (Q := fun z H2 => D.nx (σ.set i (some z)) H2) re o fun d' m1 v' ν1 H1 _ e3 rd rm1 o1 => ok_out o1 ((re.mono e3).set i rd) rm1).split (Rel1 := RD A) fun d2 m2 v2 ν2 H2 _ e4 rd2 rm2 o2 => ?_⟩
    exact h2 ν2 H2 m2 d d2 v v2 _ _ (RD.mono e4 _ _ e2) rd2 rm2 o2
  · exact o.elim
theorem setIx_out {oe ie v : Expr} {co ci ce : CE} {pos p2 : Pos} (k : Cok c lev X W) (ho : Both X A W oe (semE P call co)) (hi : Both X A W ie (semE P call ci)) (hv : Both X A W v (semE P call ce)) (hn : notComp v = true) (hs : notSlice ie = true) : PS X (.Assign [.Subscript oe ie p2] v pos) (AS A W (semS P call (.setIx co ci ce))) := by
  refine (ps_asg hv.pe (pg_sub ho.pe hi.pe set_list (set_ix hs)) (show swapsWith v (some (.Subscript oe ie p2)) pos.line X.env = pure false from swaps_of hn) stores_sub rfl).imp fun D σ H q => ?_
  obtain ⟨ν, ρ, m, re, rm, o⟩ := q
  simp only [semS] at o
  refine ⟨ν, ρ, m, re, rm, (lift_out (Rel := fun _ _ (_ : Unit) (_ : Unit) => True) (Q := fun _ H2 => D.nx σ H2) re o fun _ m1 _ ν1 H1 _ e3 _ rm1 o1 => ok_out o1 (re.mono e3) rm1).split (Rel1 := RD A) fun d m1 v1 ν1 H1 _ e1 rd1 rm1 o1 =>
    ⟨ν1, ρ, m1, re.mono e1, rm1, o1.split (Rel1 := RD A) fun d2 m2 v2 ν2 H2 _ e2 rd2 rm2 o2 => ⟨ν2, ρ, m2, (re.mono e1).mono e2, rm2, o2.split (Rel1 := RD A) fun d3 m3 v3 ν3 H3 _ e3 rd3 rm3 o3 => ?_⟩⟩⟩
  dsimp only at o3
  cases hs : setIxOf d2 d3 d m3 with
  | none => rw [hs] at o3; exact o3.elim
  | some m' =>
    rw [hs] at o3
    unfold setIxOf at hs
    split at hs
    · split at hs
      · rename_i xs hm
        rw [Option.map_eq_some_iff] at hs
        obtain ⟨j, hj, rfl⟩ := hs
        have rd2' := RD.mono e3 _ _ rd2
        simp only [RD] at rd2' rd3
        obtain ⟨a, rfl, hn⟩ := rd2'
        obtain ⟨a', hn', ys, h5, h6⟩ := rm3.get hm
        rw [hn] at hn'
        cases hn'
        have hc : a ∈ ν3.c := List.mem_of_getElem? hn
        have ex := Ext.set (H := H3) (o := .lst (ys.set j v1)) hc
        refine ⟨a, ys, _, j, rfl, rd3, h5, by rw [h6.length]; exact hj, ?_⟩
        exact o3 () ν3 _ ex trivial (rm3.set hn ⟨ys.set j v1, upd_same, RDs.mono ex _ _ (h6.set j (RD.mono e3 _ _ (RD.mono e2 _ _ rd1)))⟩)
      · cases hs
    · cases hs
/-- a slot is stored -/
theorem RM.slot {A : Ad} {ν : Nu} {H : Hp} {m : Mem} (rm : RM A ν H m) {n k : Nat} {a dx : Addr} {fs : List (Option D)} {vs : List (Option V)} {i : Nat} {d : D} {v : V} (hn : ν.c[n]? = some a) (hs : SlX.Slt H a (A.ca k) dx vs) (hd : dx ∉ ν ∧ DxAt H a dx) (ho : ROo A ν H fs vs) (rd : RD A ν H d v) :
    Ext ν H ν (SlX.slH H a (A.ca k) dx (SlX.putS i v vs)) ∧ RM A ν (SlX.slH H a (A.ca k) dx (SlX.putS i v vs)) (m.set n (.obj k (putO i d fs))) := by
  have ha : a ∈ ν.c := List.mem_of_getElem? hn
  have ne : dx ≠ a := fun z => hd.1 (.inl (by rw [z]; exact ha))
  have atx : SlX.slH H a (A.ca k) dx (SlX.putS i v vs) dx = some (.xd []) := by
    unfold SlX.slH
    rw [upd_ne ne, upd_same]
  have hsd : H dx = some (.own a) ∨ H dx = some (.xd []) := hd.2
  have ex : Ext ν H ν (SlX.slH H a (A.ca k) dx (SlX.putS i v vs)) := by
    refine ⟨⟨[], by simp, by simp⟩, rfl, fun b o hb nb kp => ?_, fun b x hb nb => ?_, fun b hb => ?_⟩
    · have h1 : b ≠ a := fun z => nb (by rw [z]; exact ha)
      by_cases h2 : b = dx
      · subst h2
        rcases hsd with z | z
        · rw [hb] at z; cases z; exact kp.elim
        · rw [hb] at z; cases z; exact atx
      · rw [SlX.slH_ne h1 h2]; exact hb
    · have h1 : b ≠ a := fun z => nb (by rw [z]; exact ha)
      by_cases h2 : b = dx
      · subst h2
        exact .inr atx
      · rw [SlX.slH_ne h1 h2]; exact .inl hb
    · by_cases h1 : b = a
      · subst h1
        unfold SlX.slH at hb
        rw [upd_same] at hb; cases hb
      · by_cases h2 : b = dx
        · subst h2; rw [atx] at hb; cases hb
        · rw [SlX.slH_ne h1 h2] at hb; exact hb
  refine ⟨ex, by simp [rm.len], rm.nd, fun j c b h1 h2 => ?_, fun b hb => ?_⟩
  · by_cases hj : j = n
    · subst hj
      have hl : j < m.length := by
        have := (List.getElem?_eq_some_iff.mp h1).1
        simpa using this
      rw [List.getElem?_set_self hl] at h1
      rw [hn] at h2
      cases h1; cases h2
      exact ⟨dx, _, SlX.slH_slt ne, ⟨hd.1, .inr atx⟩, (ho.mono0 ex.ex0).put i (RD.mono ex d v rd)⟩
    · rw [List.getElem?_set_ne (Ne.symm hj)] at h1
      have hne : b ≠ a := by
        rintro rfl
        obtain ⟨z1, e1⟩ := List.getElem?_eq_some_iff.mp hn
        obtain ⟨z2, e2⟩ := List.getElem?_eq_some_iff.mp h2
        exact hj ((List.getElem_inj rm.nd).mp (e2.trans e1.symm))
      have hbx : b ≠ dx := fun z => hd.1 (.inl (by rw [← z]; exact List.mem_of_getElem? h2))
      exact (rm.at_ j c b h1 h2).keep ex.ex0 (SlX.slH_ne hne hbx)
  · obtain ⟨o, hbo⟩ := rm.hid b hb
    cases hh : SlX.slH H a (A.ca k) dx (SlX.putS i v vs) b with
    | some o => exact ⟨o, rfl⟩
    | none => rw [ex.more b hh] at hbo; cases hbo
theorem setAttr_out {oe v : Expr} {f : Str} {co ce : CE} {pos p2 : Pos} (T : LnkX L A P call lev X) (k : Cok c lev X W) (ho : Both X A W oe (semE P call co)) (hv : Both X A W v (semE P call ce)) (hn : notComp v = true) : PS X (.Assign [.Attribute oe f p2] v pos) (AS A W (semS P call (.setAttr co f ce))) := by
  refine (SlX.ps_sl ho.pe hv.pe (show swapsWith v (some (.Attribute oe f p2)) pos.line X.env = pure false from swaps_of hn)).imp fun D σ H q => ?_
  obtain ⟨ν, ρ, m, re, rm, o⟩ := q
  simp only [semS] at o
  refine ⟨ν, ρ, m, re, rm, (lift_out (Rel := fun _ _ (_ : Unit) (_ : Unit) => True) (Q := fun _ H2 => D.nx σ H2) re o fun _ m1 _ ν1 H1 _ e3 _ rm1 o1 => ok_out o1 (re.mono e3) rm1).split (Rel1 := RD A) fun d m1 v1 ν1 H1 _ e1 rd1 rm1 o1 =>
    ⟨ν1, ρ, m1, re.mono e1, rm1, o1.split (Rel1 := RD A) fun d2 m2 v2 ν2 H2 _ e2 rd2 rm2 o2 => ?_⟩⟩
  dsimp only at o2
  cases hs : setAttrOf P d2 f d m2 with
  | none => rw [hs] at o2; exact o2.elim
  | some m' =>
    rw [hs] at o2
    unfold setAttrOf at hs
    split at hs
    · split at hs
      · rename_i n kc fs hm
        rw [Option.map_eq_some_iff] at hs
        obtain ⟨i, hi, rfl⟩ := hs
        rw [Option.bind_eq_some_iff] at hi
        obtain ⟨cl, hcl, hi⟩ := hi
        have F := T.clss _ cl hcl
        have hf : cl.fields[i]? = some f := by
          obtain ⟨hlt, hp, _⟩ := List.findIdx?_eq_some_iff_getElem.mp hi
          rw [List.getElem?_eq_getElem hlt, of_decide_eq_true hp]
        obtain ⟨p, hp⟩ := F.slot i f hf
        simp only [RD] at rd2
        obtain ⟨a, rfl, hn⟩ := rd2
        obtain ⟨a', hn', dx, vs, h5, h6, h7⟩ := rm2.get hm
        rw [hn] at hn'
        cases hn'
        obtain ⟨ex, rm3⟩ := rm2.slot (i := i) hn h5 h6 h7 (RD.mono e2 d v1 rd1)
        exact ⟨a, _, dx, p, vs, i, rfl, h5, F.scls, hp, o2 () ν2 _ ex trivial rm3⟩
      · cases hs
    · cases hs
/-! ### targets of all kinds -/
def gSlot (K : PySem.W.Frag) (to : TE) (f : Str) : TG := fun y σ H Q => to σ H fun x H1 => ∃ a C dx p vs i, x = .ref a ∧ SlX.Slt H1 a C dx vs ∧ SlX.SCls K C ∧ SlX.Slot1 K C f p i ∧ Q σ (SlX.slH H1 a C dx (SlX.putS i y vs))
theorem pg_slot {X : Cx} {o : Expr} {to : TE} {f : Str} {pos : Pos} (ho : PE X o to) : PG X (.Attribute o f pos) (gSlot X.K to f) := by
  refine ⟨fun pins s σ H v u Q I r h => ?_⟩
  rw [assign_Attribute]
  refine wpAny_bind (wpAny_holding (thn (ho.run pins s σ H _ I h) fun ov s1 ⟨x, H1, I1, r1, q1⟩ => ?_))
  obtain ⟨a, C, dx, p, vs, i, ex, hsl, c, t, q⟩ := q1
  subst ex
  obtain rfl : ov = Value.ref a := r1
  refine wpAny_bind (wpAny_standAt (wpAny_bind (wpAny_holding (SlX.setslot_ok I1 hsl c t r fun s3 I3 => ?_))))
  exact wpAny_release ⟨σ, _, I3, q⟩
def GG (A : Ad) (P : Prg) (call : Nat → List D → Mem → R (D × Mem)) (t : GT) : TG := fun x σ H Q => ∃ ν ρ m d r, RE A ν H ρ σ ∧ RM A ν H m ∧ RD A ν H d x ∧ storeG P call t d ρ m = .ok r ∧ ∀ ν' H' σ', Ext ν H ν' H' → RE A ν' H' r.1 σ' → RM A ν' H' r.2 → Q σ' H'
def GGs (A : Ad) (P : Prg) (call : Nat → List D → Mem → R (D × Mem)) (ts : List GT) : TGs := fun xs σ H Q => ∃ ν ρ m ds r, RE A ν H ρ σ ∧ RM A ν H m ∧ RDs A ν H ds xs ∧ storeGs P call ts ds ρ m = .ok r ∧ ∀ ν' H' σ', Ext ν H ν' H' → RE A ν' H' r.1 σ' → RM A ν' H' r.2 → Q σ' H'
theorem nox_ok {α : Type} {r : R α} {x : α} (h : nox r = .ok x) : r = .ok x := by
  cases r <;> simp_all [nox]
theorem bind_ok {α β : Type} {r : R α} {f : α → R β} {y : β} (h : r.bind f = .ok y) : ∃ x, r = .ok x ∧ f x = .ok y := by
  cases r with
  | ok a => exact ⟨a, rfl, h⟩
  | exc c fs m => cases h
  | bad => cases h
theorem storeGs_len {P : Prg} {call : Nat → List D → Mem → R (D × Mem)} : ∀ {ts : List GT} {ds : List D} {ρ : Rf.Env} {m : Mem} {r}, storeGs P call ts ds ρ m = .ok r → ds.length = ts.length
  | [], [], _, _, _, _ => rfl
  | [], _ :: _, _, _, _, h => by simp [storeGs] at h
  | _ :: _, [], _, _, _, h => by simp [storeGs] at h
  | t :: ts, d :: ds, ρ, m, r, h => by
    simp only [storeGs] at h
    obtain ⟨x, _, h2⟩ := bind_ok h
    simp [storeGs_len h2]
theorem chkGs_each {L : Lk} {c : Ct} {env : PySem.Env} : ∀ {ts : List GT} {es : List Expr}, chkGs L c ts es = true → (assignEach es env).length = ts.length ∧ (assignEach es env).findIdx? (·.1) = none ∧ es.length = ts.length
  | [], [], _ => ⟨rfl, rfl, rfl⟩
  | [], _ :: _, h => by simp [chkGs] at h
  | _ :: _, [], h => by simp [chkGs] at h
  | t :: ts, e :: es, h => by
    simp only [chkGs, Bool.and_eq_true] at h
    obtain ⟨h1, h2, h3⟩ := chkGs_each (env := env) h.1.2
    rw [assignEach_of h.2]
    refine ⟨by rw [List.length_cons, List.length_cons, h1], ?_, by rw [List.length_cons, List.length_cons, h3]⟩
    rw [List.findIdx?_cons, h2]; rfl
theorem setIx_at {A : Ad} {ν : Nu} {H : Hp} {m m' : Mem} {d1 d2 d : D} {v1 v2 v : V} (rm : RM A ν H m) (r1 : RD A ν H d1 v1) (r2 : RD A ν H d2 v2) (rd : RD A ν H d v) (hs : setIxOf d1 d2 d m = some m') :
    ∃ a ys k j, v1 = .ref a ∧ v2 = .int k ∧ H a = some (.lst ys) ∧ ixN ys.length k = some j ∧ Ext ν H ν (upd H a (.lst (ys.set j v))) ∧ RM A ν (upd H a (.lst (ys.set j v))) m' := by
  unfold setIxOf at hs
  split at hs
  · split at hs
    · rename_i xs hm
      rw [Option.map_eq_some_iff] at hs
      obtain ⟨j, hj, rfl⟩ := hs
      simp only [RD] at r1 r2
      obtain ⟨a, rfl, hn⟩ := r1
      obtain ⟨a', hn', ys, h5, h6⟩ := rm.get hm
      rw [hn] at hn'
      cases hn'
      have hc : a ∈ ν.c := List.mem_of_getElem? hn
      have ex := Ext.set (H := H) (o := .lst (ys.set j v)) hc
      exact ⟨a, ys, _, j, rfl, r2, h5, by rw [h6.length]; exact hj, ex, rm.set hn ⟨ys.set j v, upd_same, RDs.mono ex _ _ (h6.set j rd)⟩⟩
    · cases hs
  · cases hs
theorem setAt_at (T : LnkX L A P call lev X) {ν : Nu} {H : Hp} {m m' : Mem} {d1 d : D} {f : Str} {v1 v : V} (rm : RM A ν H m) (r1 : RD A ν H d1 v1) (rd : RD A ν H d v) (hs : setAttrOf P d1 f d m = some m') :
    ∃ a C dx p vs i, v1 = .ref a ∧ SlX.Slt H a C dx vs ∧ SlX.SCls X.K C ∧ SlX.Slot1 X.K C f p i ∧ Ext ν H ν (SlX.slH H a C dx (SlX.putS i v vs)) ∧ RM A ν (SlX.slH H a C dx (SlX.putS i v vs)) m' := by
  unfold setAttrOf at hs
  split at hs
  · split at hs
    · rename_i n kc fs hm
      rw [Option.map_eq_some_iff] at hs
      obtain ⟨i, hi, rfl⟩ := hs
      rw [Option.bind_eq_some_iff] at hi
      obtain ⟨cl, hcl, hi⟩ := hi
      have F := T.clss _ cl hcl
      have hf : cl.fields[i]? = some f := by
        obtain ⟨hlt, hp, _⟩ := List.findIdx?_eq_some_iff_getElem.mp hi
        rw [List.getElem?_eq_getElem hlt, of_decide_eq_true hp]
      obtain ⟨p, hp⟩ := F.slot i f hf
      simp only [RD] at r1
      obtain ⟨a, rfl, hn⟩ := r1
      obtain ⟨a', hn', dx, vs, h5, h6, h7⟩ := rm.get hm
      rw [hn] at hn'
      cases hn'
      obtain ⟨ex, rm3⟩ := rm.slot (i := i) hn h5 h6 h7 rd
      exact ⟨a, _, dx, p, vs, i, rfl, h5, F.scls, hp, ex, rm3⟩
    · cases hs
  · cases hs
mutual
theorem pgG_of (T : LnkX L A P call lev X) (k : Cok c lev X W) : ∀ (t : GT) (e : Expr), chkG L c t e = true → PG X e (GG A P call t)
  | .name i, e, h => by
    cases e <;> simp only [chkG, Bool.false_eq_true] at h
    obtain ⟨h1, h2, h3⟩ := loc_of k.tok h
    refine ⟨fun pins s σ H v u Q I r q => (pg_name (by rw [k.N]; exact k.nd) h1 h2 h3).run pins s σ H v u Q I r ?_⟩
    obtain ⟨ν, ρ, m, d, r0, re, rm, rd, e1, q⟩ := q
    simp only [storeG] at e1
    cases e1
    exact q ν H _ (Ext.refl _ _) (re.set i rd) rm
  | .ix o i, e, h => by
    cases e <;> simp only [chkG, Bool.false_eq_true] at h
    simp only [Bool.and_eq_true] at h
    obtain ⟨⟨h1, h2⟩, h3⟩ := h
    refine ⟨fun pins s σ H v u Q I r q => (pg_sub (sndE o _ h1 k T).pe (sndE i _ h2 k T).pe set_list (set_ix h3)).run pins s σ H v u Q I r ?_⟩
    obtain ⟨ν, ρ, m, d, r0, re, rm, rd, e1, q⟩ := q
    simp only [storeG] at e1
    obtain ⟨⟨d1, m1⟩, e2, e1⟩ := bind_ok e1
    obtain ⟨⟨d2, m2⟩, e3, e1⟩ := bind_ok e1
    dsimp only at e1 e3
    have e2 := nox_ok e2
    have e3 := nox_ok e3
    cases hs : setIxOf d1 d2 d m2 with
    | none => rw [hs] at e1; cases e1
    | some m' =>
      rw [hs] at e1
      cases e1
      refine ⟨ν, ρ, m, re, rm, ?_⟩
      rw [e2]
      intro v1 ν1 H1 x1 rd1 rm1
      refine ⟨ν1, ρ, m1, re.mono x1, rm1, ?_⟩
      rw [e3]
      intro v2 ν2 H2 x2 rd2 rm2
      obtain ⟨a, ys, kk, j, rfl, rfl, h5, h6, ex, rm3⟩ := setIx_at rm2 (RD.mono x2 _ _ rd1) rd2 (RD.mono x2 _ _ (RD.mono x1 _ _ rd)) hs
      exact ⟨a, ys, kk, j, rfl, rfl, h5, h6, q ν2 _ σ ((x1.trans x2).trans ex) (((re.mono x1).mono x2).mono ex) rm3⟩
  | .attr o f, e, h => by
    cases e <;> simp only [chkG, Bool.false_eq_true] at h
    simp only [Bool.and_eq_true, decide_eq_true_eq] at h
    obtain ⟨h1, rfl⟩ := h
    refine ⟨fun pins s σ H v u Q I r q => (pg_slot (sndE o _ h1 k T).pe).run pins s σ H v u Q I r ?_⟩
    obtain ⟨ν, ρ, m, d, r0, re, rm, rd, e1, q⟩ := q
    simp only [storeG] at e1
    obtain ⟨⟨d1, m1⟩, e2, e1⟩ := bind_ok e1
    dsimp only at e1
    have e2 := nox_ok e2
    cases hs : setAttrOf P d1 _ d m1 with
    | none => rw [hs] at e1; cases e1
    | some m' =>
      rw [hs] at e1
      cases e1
      refine ⟨ν, ρ, m, re, rm, ?_⟩
      rw [e2]
      intro v1 ν1 H1 x1 rd1 rm1
      obtain ⟨a, C, dx, p, vs, i, rfl, h5, h6, h7, ex, rm3⟩ := setAt_at T rm1 rd1 (RD.mono x1 _ _ rd) hs
      exact ⟨a, C, dx, p, vs, i, rfl, h5, h6, h7, q ν1 _ σ (x1.trans ex) ((re.mono x1).mono ex) rm3⟩
  | .tup ts, e, h => by
    cases e <;> simp only [chkG, Bool.false_eq_true] at h
    obtain ⟨h1, h2, h3⟩ := chkGs_each (env := X.env) h
    refine ⟨fun pins s σ H v u Q I r q => (pg_tup k.calm (pgsG_of T k ts _ h) h1 h2).run pins s σ H v u Q I r ?_⟩
    obtain ⟨ν, ρ, m, d, r0, re, rm, rd, e1, q⟩ := q
    cases d with
    | tup ds =>
      simp only [RD] at rd
      obtain ⟨a, xs, rfl, _, ha, rds⟩ := rd
      simp only [storeG] at e1
      exact ⟨a, xs, rfl, SqT.of ha, by rw [rds.length, storeGs_len e1], ν, ρ, m, ds, r0, re, rm, rds, e1, q⟩
    | _ => simp [storeG] at e1
theorem pgsG_of (T : LnkX L A P call lev X) (k : Cok c lev X W) : ∀ (ts : List GT) (es : List Expr), chkGs L c ts es = true → PGs X es (GGs A P call ts)
  | [], es, h => by
    cases es with
    | cons _ _ => simp [chkGs] at h
    | nil =>
      refine ⟨fun pins s σ H vs us Q I r q => pgs_nil.run pins s σ H vs us Q I r ?_⟩
      obtain ⟨ν, ρ, m, ds, r0, re, rm, rds, e1, q⟩ := q
      cases ds with
      | cons _ _ => simp [storeGs] at e1
      | nil =>
        simp only [storeGs] at e1
        cases e1
        exact ⟨rds.inv0, q ν H σ (Ext.refl _ _) re rm⟩
  | t :: ts, es, h => by
    cases es with
    | nil => simp [chkGs] at h
    | cons e es =>
      simp only [chkGs, Bool.and_eq_true] at h
      refine ⟨fun pins s σ H vs us Q I r q => (pgs_cons (pgG_of T k t e h.1.1) (pgsG_of T k ts es h.1.2) (by rw [assignEach_of h.2]; rfl)).run pins s σ H vs us Q I r ?_⟩
      obtain ⟨ν, ρ, m, ds, r0, re, rm, rds, e1, q⟩ := q
      cases ds with
      | nil => simp [storeGs] at e1
      | cons d ds =>
        obtain ⟨v, r', rfl, rd, rds'⟩ := rds.inv
        simp only [storeGs] at e1
        obtain ⟨⟨ρ1, m1⟩, e2, e3⟩ := bind_ok e1
        exact ⟨v, r', rfl, ν, ρ, m, d, _, re, rm, rd, e2, fun ν1 H1 σ1 x1 re1 rm1 => ⟨ν1, ρ1, m1, ds, r0, re1, rm1, RDs.mono x1 _ _ rds', e3, fun ν2 H2 σ2 x2 re2 rm2 => q ν2 H2 σ2 (x1.trans x2) re2 rm2⟩⟩
end
theorem asg_noneT {tg v : Expr} {env : PySem.Env} (hs : env.scope = c.sc) (hf : c.sc.kind = .function) (ht : tupT tg = true) (h : asgB c tg v = true) {l : Nat} :
    swapsWithSole [tg] v l env = pure false ∧ swappedStores [tg] v env = pure none ∧ (assignEach [tg] env).map (·.2) = [assign tg env] := by
  have hk : env.scope.kind = .function := by rw [hs]; exact hf
  cases tg <;> try (cases ht; done)
  rename_i ts k p
  refine ⟨?_, ?_, rfl⟩
  · show swapsWith v (some (.Tuple ts k p)) l env = pure false
    by_cases hv : notComp v = true
    · exact swaps_of hv
    · cases v <;> try (exact absurd rfl hv)
      · rfl
      · rfl
      · rfl
  · by_cases hv : notTup v = true
    · exact stores_tup hv
    · cases v <;> try (exact absurd rfl hv)
      simp only [asgB, decide_eq_true_eq] at h
      exact swap_eq hk (by rw [hs]; exact h)
theorem asgG_out (T : LnkX L A P call lev X) {tg e : Expr} {pos : Pos} {t : GT} {ce : CE} (k : Cok c lev X W) (hb : Both X A W e (semE P call ce)) (ht : chkG L c t tg = true) (ha : asgB c tg e = true) (hq : tupT tg = true) : PS X (.Assign [tg] e pos) (AS A W (semS P call (.asgG t ce))) := by
  obtain ⟨h1, h2, h3⟩ := asg_noneT (env := X.env) k.sc k.kind hq ha (l := pos.line)
  refine (ps_asg hb.pe (pgG_of T k t tg ht) h1 h2 h3).imp fun D σ H q => ?_
  obtain ⟨ν, ρ, m, re, rm, o⟩ := q
  simp only [semS] at o
  refine ⟨ν, ρ, m, re, rm, lift_out (Rel := RD A) re o fun d m1 v ν1 H1 _ e1 rd rm1 o1 => ?_⟩
  cases hs : storeG P call t d ρ m1 with
  | ok r =>
    rw [hs] at o1
    exact ⟨ν1, ρ, m1, d, r, re.mono e1, rm1, rd, hs, fun ν2 H2 σ2 x2 re2 rm2 => ok_out (OutS.mono x2 o1) re2 rm2⟩
  | exc c fs m => rw [hs] at o1; exact o1.elim
  | bad => rw [hs] at o1; exact o1.elim
theorem ret_out {e : Expr} {ce : CE} {pos : Pos} (hb : Both X A W e (semE P call ce)) : PS X (.Return (some e) pos) (AS A W (semS P call (.ret ce))) := by
  refine (ps_ret hb.pe).imp fun D σ H q => ?_
  obtain ⟨ν, ρ, m, re, rm, o⟩ := q
  simp only [semS] at o
  exact ⟨ν, ρ, m, re, rm, lift_out (Rel := RD A) re o fun d m1 v ν1 H1 _ e1 rd rm1 o1 => ok_out o1 (re.mono e1) rm1 v rd⟩
theorem expr_out {e : Expr} {ce : CE} {pos : Pos} (hb : Both X A W e (semE P call ce)) (hn : notComp e = true) : PS X (.Expr e pos) (AS A W (semS P call (.expr ce))) := by
  refine (ps_expr hb.pe (swaps_of hn)).imp fun D σ H q => ?_
  obtain ⟨ν, ρ, m, re, rm, o⟩ := q
  simp only [semS] at o
  exact ⟨ν, ρ, m, re, rm, lift_out (Rel := RD A) re o fun d m1 v ν1 H1 _ e1 rd rm1 o1 => ok_out o1 (re.mono e1) rm1⟩
theorem if_out {t : Expr} {a b : List Stmt} {ct : CE} {ca cb : CSs} {pos : Pos} (ht : Both X A W t (semE P call ct)) (ha : PSs X a (AS A W (semSs P call ca))) (hb : PSs X b (AS A W (semSs P call cb))) : PS X (.If t a b pos) (AS A W (semS P call (.ifs ct ca cb))) := by
  refine (ps_if ht.pt ha hb).imp fun D σ H q => ?_
  obtain ⟨ν, ρ, m, re, rm, o⟩ := q
  simp only [semS] at o
  refine ⟨ν, ρ, m, re, rm, lift_out (Rel := fun _ _ b c => c = b) re o fun d m1 v ν1 H1 _ e1 ek rm1 o1 => ?_⟩
  subst ek
  split
  · rename_i hk
    rw [if_pos hk] at o1
    exact ⟨ν1, ρ, m1, re.mono e1, rm1, o1⟩
  · rename_i hk
    rw [if_neg hk] at o1
    exact ⟨ν1, ρ, m1, re.mono e1, rm1, o1⟩
theorem seq_out {s : Stmt} {ss : List Stmt} {f g : Rf.Env → Mem → RS} (h1 : PS X s (AS A W f)) (h2 : PSs X ss (AS A W g)) : PSs X (s :: ss) (AS A W fun ρ m => (f ρ m).andThen fun ρ' m' => g ρ' m') := by
  refine ⟨fun pins st σ H D I q => (pss_cons h1 h2).run pins st σ H D I ?_⟩
  obtain ⟨ν, ρ, m, re, rm, o⟩ := q
  exact ⟨ν, ρ, m, re, rm, then_out o fun ρ' m' ν' H' σ' e re' rm' o' => ⟨ν', ρ', m', re', rm', o'⟩⟩
theorem swap_len {sc : Scope} {ts vs : List Expr} {ns : List Str} (h : swapNames sc ts vs = some (some ns)) : (ts.length = 2 ∨ ts.length = 3) ∧ vs.length = ts.length := by
  unfold swapNames at h
  split at h
  · cases h
  · rename_i h1
    simp only [Bool.or_eq_true, Bool.not_eq_true', Bool.or_eq_false_iff, bne_iff_ne, ne_eq, beq_eq_false_iff_ne, not_or, not_and, Decidable.not_not] at h1
    refine ⟨?_, h1.2⟩
    by_cases z : ts.length = 2
    · exact .inl z
    · exact .inr (h1.1 z)
theorem par_out {ts vs : List Expr} {k1 k2 : Nat} {p1 p2 pos : Pos} {is : List Nat} {es : CEs} {ns : List Str} (k : Cok c lev X W) (hall : Alls X A P call W es vs) (hsw : swapNames c.sc ts vs = some (some ns)) (hi : is.map (fun i => c.N[i]?) = ns.map some) (hl : ts.length = ns.length)
    (hz : (ts.zip ns).all (fun p => match p.1 with
      | .Name x _ => decide (x = p.2) && decide (c.sc.names.lookup x = some .local)
      | _ => false) = true) (hn : is.Nodup) : PS X (.Assign [.Tuple ts k1 p1] (.Tuple vs k2 p2) pos) (AS A W (semS P call (.par is es))) := by
  obtain ⟨h1, h2⟩ := swap_len hsw
  have hw := swap_eq (env := X.env) (k := k1) (k2 := k2) (p := p1) (p2 := p2) (r := some ns) (by rw [k.sc]; exact k.kind) (by rw [k.sc]; exact hsw)
  have il : is.length = ns.length := by
    have := congrArg List.length hi
    simpa using this
  have fin : ∀ (D : Ends) (σ : L2.St) (H : Hp) (Q : List V → Hp → Prop), AS A W (semS P call (.par is es)) D σ H → (∀ ds vs ν ρ m H1, RDs A ν H1 ds vs → RE A ν H1 ρ σ → RM A ν H1 m → (∀ ρ', setAll is ds ρ = some ρ' → ∀ σ', RE A ν H1 ρ' σ' → D.nx σ' H1) → (∃ ρ', setAll is ds ρ = some ρ') → Q vs H1) → AA A W (semEs P call es) σ H Q := fun D σ H Q q hq => by
    obtain ⟨ν, ρ, m, re, rm, o⟩ := q
    simp only [semS] at o
    refine ⟨ν, ρ, m, re, rm, lift_out (Rel := RDs A) re o fun ds m1 vs ν1 H1 _ e1 rd rm1 o1 => ?_⟩
    cases hs : setAll is ds ρ with
    | none => rw [hs] at o1; exact o1.elim
    | some ρ1 =>
      rw [hs] at o1
      exact hq ds vs ν1 ρ m1 H1 rd (re.mono e1) rm1 (fun ρ' e σ' re' => by
        rw [hs] at e
        cases e
        exact ok_out o1 re' rm1) ⟨ρ1, hs⟩
  have nl : X.N.Nodup := by rw [k.N]; exact k.nd
  rcases h1 with h1 | h1
  · match ts, ns, is, vs, h1, hl, il, h2 with
    | [t1, t2], [n1, n2], [i, j], [v1, v2], _, _, _, _ =>
      simp only [List.map_cons, List.map_nil, List.cons.injEq, and_true] at hi
      simp only [List.zip_cons_cons, List.zip_nil_right, List.all_cons, List.all_nil, Bool.and_true, Bool.and_eq_true] at hz
      obtain ⟨z1, z2⟩ := hz
      split at z1 <;> try (cases z1; done)
      split at z2 <;> try (cases z2; done)
      simp only [Bool.and_eq_true, decide_eq_true_eq] at z1 z2
      obtain ⟨rfl, zx⟩ := z1
      obtain ⟨rfl, zy⟩ := z2
      have hij : i ≠ j := by simpa using hn
      obtain ⟨e1, e2, rfl, b1, b2, _, _⟩ := hall.two
      refine (ps_par k.calm nl (by rw [k.N]; exact hi.1) (by rw [k.N]; exact hi.2) hij (by rw [k.sc]; exact zx) (by rw [k.sc]; exact zy) hall.pa hw).imp fun D σ H q => fin D σ H _ q fun ds us ν ρ m H1 rds re rm hq ⟨ρ', hs⟩ => ?_
      match ds, hs with
      | [d1, d2], hs =>
        obtain ⟨u1, u2, rfl, r1, r2⟩ := two_inv rds
        refine ⟨u1, u2, rfl, hq _ hs _ ?_⟩
        simp only [setAll, Option.some.injEq] at hs
        subst hs
        exact (re.set i r1).set j r2
  · match ts, ns, is, vs, h1, hl, il, h2 with
    | [t1, t2, t3], [n1, n2, n3], [i, j, l], [v1, v2, v3], _, _, _, _ =>
      simp only [List.map_cons, List.map_nil, List.cons.injEq, and_true] at hi
      simp only [List.zip_cons_cons, List.zip_nil_right, List.all_cons, List.all_nil, Bool.and_true, Bool.and_eq_true] at hz
      obtain ⟨z1, z2, z3⟩ := hz
      split at z1 <;> try (cases z1; done)
      split at z2 <;> try (cases z2; done)
      split at z3 <;> try (cases z3; done)
      simp only [Bool.and_eq_true, decide_eq_true_eq] at z1 z2 z3
      obtain ⟨rfl, zx⟩ := z1
      obtain ⟨rfl, zy⟩ := z2
      obtain ⟨rfl, zw⟩ := z3
      simp only [List.nodup_cons, List.mem_cons, List.not_mem_nil, or_false, not_or, not_false_eq_true, List.nodup_nil, and_true] at hn
      obtain ⟨e1, e2, e3, rfl, b1, b2, b3⟩ := hall.three
      refine (ps_par3 k.calm nl (by rw [k.N]; exact hi.1) (by rw [k.N]; exact hi.2.1) (by rw [k.N]; exact hi.2.2) hn.1.1 hn.1.2 hn.2 (by rw [k.sc]; exact zx) (by rw [k.sc]; exact zy) (by rw [k.sc]; exact zw) hall.pa hw).imp fun D σ H q => fin D σ H _ q fun ds us ν ρ m H1 rds re rm hq ⟨ρ', hs⟩ => ?_
      match ds, hs with
      | [d1, d2, d3], hs =>
        obtain ⟨u1, us, rfl, r1, rr⟩ := rds.inv
        obtain ⟨u2, u3, rfl, r2, r3⟩ := two_inv rr
        refine ⟨u1, u2, u3, rfl, hq _ hs _ ?_⟩
        simp only [setAll, Option.some.injEq] at hs
        subst hs
        exact ((re.set i r1).set j r2).set l r3
/-! ### all statements -/
mutual
theorem sndS (T : LnkX L A P call lev X) (k : Cok c lev X W) (hp : PassesOwn (model X.prog X.w) X.A X.env X.xe) : ∀ (cs : CS) (s : Stmt), chkS L c cs s = true → PS X s (AS A W (semS P call cs))
  | .expr e, s, h => by
    unfold chkS at h
    split at h <;> rename_i he <;> try (cases he; done)
    all_goals try (cases h; done)
    cases he
    rw [Bool.and_eq_true] at h
    exact expr_out (sndE e _ h.1 k T) h.2
  | .assign t e, s, h => by
    unfold chkS at h
    split at h <;> rename_i he <;> try (cases he; done)
    all_goals try (cases h; done)
    cases he
    simp only [Bool.and_eq_true, Bool.or_eq_true] at h
    obtain ⟨⟨h1, h2⟩, h3 | ⟨h3, h4⟩⟩ := h
    · exact assign_out k (sndE e _ h2 k T) h1 h3
    · exact setLc_out T k h2 h1 h3 h4
  | .par is es, s, h => by
    unfold chkS at h
    split at h <;> rename_i he <;> try (cases he; done)
    all_goals try (cases h; done)
    cases he
    rw [Bool.and_eq_true] at h
    obtain ⟨h1, h2⟩ := h
    split at h2
    · rename_i ns hsw
      simp only [Bool.and_eq_true, decide_eq_true_eq] at h2
      obtain ⟨⟨⟨h3, h4⟩, h5⟩, h6⟩ := h2
      exact par_out k (sndEs es _ h1 k T) hsw h3 h4 h5 h6
    · cases h2
  | .aug i p e, s, h => by
    unfold chkS at h
    split at h <;> rename_i he <;> try (cases he; done)
    all_goals try (cases h; done)
    cases he
    simp only [Bool.and_eq_true, decide_eq_true_eq] at h
    obtain ⟨⟨⟨h1, h2⟩, h3⟩, h4⟩ := h
    exact aug_out k h1 h2 h3 (sndE e _ h4 k T)
  | .setIx o i e, s, h => by
    unfold chkS at h
    split at h <;> rename_i he <;> try (cases he; done)
    all_goals try (cases h; done)
    cases he
    simp only [Bool.and_eq_true] at h
    obtain ⟨⟨⟨⟨h1, h2⟩, h3⟩, h4⟩, h5⟩ := h
    exact setIx_out k (sndE o _ h2 k T) (sndE i _ h3 k T) (sndE e _ h1 k T) h4 h5
  | .setAttr o f e, s, h => by
    unfold chkS at h
    split at h <;> rename_i he <;> try (cases he; done)
    all_goals try (cases h; done)
    cases he
    simp only [Bool.and_eq_true, decide_eq_true_eq] at h
    obtain ⟨⟨⟨h1, h2⟩, h3⟩, h4⟩ := h
    subst h3
    exact setAttr_out T k (sndE o _ h2 k T) (sndE e _ h1 k T) h4
  | .asgG t e, s, h => by
    unfold chkS at h
    split at h <;> rename_i he <;> try (cases he; done)
    all_goals try (cases h; done)
    cases he
    simp only [Bool.and_eq_true] at h
    obtain ⟨⟨⟨h1, h2⟩, h3⟩, h4⟩ := h
    exact asgG_out T k (sndE e _ h2 k T) h1 h3 h4
  | .ret e, s, h => by
    unfold chkS at h
    split at h <;> rename_i he <;> try (cases he; done)
    all_goals try (cases h; done)
    cases he
    exact ret_out (sndE e _ h k T)
  | .retN, s, h => by
    unfold chkS at h
    split at h <;> rename_i he <;> try (cases he; done)
    all_goals try (cases h; done)
    exact ps_retN.imp fun D σ H q => by
      obtain ⟨ν, ρ, m, re, rm, o⟩ := q
      simp only [semS] at o
      exact ok_out o re rm .non (by simp only [RD])
  | .ifs t a b, s, h => by
    unfold chkS at h
    split at h <;> rename_i he <;> try (cases he; done)
    all_goals try (cases h; done)
    cases he
    simp only [Bool.and_eq_true] at h
    exact if_out (sndE t _ h.1.1 k T) (sndSs T k hp a _ h.1.2) (sndSs T k hp b _ h.2)
  | .whil t b, s, h => by
    unfold chkS at h
    split at h <;> rename_i he <;> try (cases he; done)
    all_goals try (cases h; done)
    cases he
    rw [Bool.and_eq_true] at h
    refine (while_out hp (sndE t _ h.1 k T).pt (sndSs T k hp b _ h.2) fuelW).imp fun D σ H q => ?_
    obtain ⟨ν, ρ, m, re, rm, o⟩ := q
    simp only [semS] at o
    exact ⟨ν, ρ, m, re, rm, o⟩
  | .fors t it b, s, h => by
    unfold chkS at h
    split at h <;> rename_i he <;> try (cases he; done)
    all_goals try (cases h; done)
    cases he
    simp only [Bool.and_eq_true] at h
    obtain ⟨⟨⟨h1, h2⟩, h3⟩, h4⟩ := h
    refine (for_out hp k.calm (sndI it _ _ h2 k T) (pg_of k.tok t _ h1) (sndSs T k hp b _ h3) h4).imp fun D σ H q => ?_
    obtain ⟨ν, ρ, m, re, rm, o⟩ := q
    simp only [semS] at o
    exact ⟨ν, ρ, m, re, rm, o⟩
  | .pass, s, h => by
    unfold chkS at h
    split at h <;> rename_i he <;> try (cases he; done)
    all_goals try (cases h; done)
    exact ps_pass.imp fun D σ H q => by
      obtain ⟨ν, ρ, m, re, rm, o⟩ := q
      simp only [semS] at o
      exact ok_out o re rm
  | .brk, s, h => by
    unfold chkS at h
    split at h <;> rename_i he <;> try (cases he; done)
    all_goals try (cases h; done)
    exact ps_break.imp fun D σ H q => by
      obtain ⟨ν, ρ, m, re, rm, o⟩ := q
      simp only [semS] at o
      exact ok_out o re rm
  | .cont, s, h => by
    unfold chkS at h
    split at h <;> rename_i he <;> try (cases he; done)
    all_goals try (cases h; done)
    exact ps_continue.imp fun D σ H q => by
      obtain ⟨ν, ρ, m, re, rm, o⟩ := q
      simp only [semS] at o
      exact ok_out o re rm
  | .bad, s, h => ps_never.imp fun D σ H q => by
      obtain ⟨ν, ρ, m, re, rm, o⟩ := q
      simp only [semS] at o
      exact o.elim
  | .raise _ _, s, h => by
    unfold chkS at h
    cases h
theorem sndSs (T : LnkX L A P call lev X) (k : Cok c lev X W) (hp : PassesOwn (model X.prog X.w) X.A X.env X.xe) : ∀ (cs : CSs) (ss : List Stmt), chkSs L c cs ss = true → PSs X ss (AS A W (semSs P call cs))
  | .nil, ss, h => by
    cases ss with
    | cons _ _ => simp [chkSs] at h
    | nil =>
      refine ⟨fun pins st σ H D I q => pss_nil.run pins st σ H D I ?_⟩
      obtain ⟨ν, ρ, m, re, rm, o⟩ := q
      simp only [semSs] at o
      exact ok_out o re rm
  | .cons s rest, ss, h => by
    cases ss with
    | nil => simp [chkSs] at h
    | cons x xs =>
      simp only [chkSs, Bool.and_eq_true] at h
      have q := seq_out (sndS T k hp s x h.1) (sndSs T k hp rest xs h.2)
      exact q.imp fun D σ H q => by
        obtain ⟨ν, ρ, m, re, rm, o⟩ := q
        simp only [semSs] at o
        exact ⟨ν, ρ, m, re, rm, o⟩
end
end
end Rf

/-! R12: the call's end; functions. -/
namespace Rf
open PySem PySem.Spec PyProof.Rows L2

section
variable {A : Ad} {ν ν' : Nu} {H H' : Hp} {m m' : Mem} {n : Nat}
theorem cut_out {d : D} {v : V} (rm : RM A ν H m) (e : Ext ν H ν' H') (rd : RD A ν' H' d v) (rm' : RM A ν' H' m') : ∃ ν2, Ext ν H ν2 H' ∧ RD A ν2 H' (cut m d m').1 v ∧ RM A ν2 H' (cut m d m').2 := by
  unfold cut
  split
  · rename_i ho
    obtain ⟨dn, ex, rb⟩ := back_mem rm e rm' ho
    split
    · rename_i hl
      exact ⟨ν, ex, RD.down dn _ _ hl rd, rb⟩
    · split
      · rename_i i
        split
        · rename_i c hc
          split
          · rename_i hi
            rw [Bool.and_eq_true, decide_eq_true_eq] at hi
            simp only [RD] at rd
            obtain ⟨a, rfl, ha⟩ := rd
            obtain ⟨t, e1, ht⟩ := e.pre
            have hat : a ∈ t := by
              rw [e1, List.getElem?_append_right (by rw [rm.len]; exact hi.2)] at ha
              exact List.mem_of_getElem? ha
            have hna : a ∉ ν.c := fun z => by
              have nd := rm'.nd
              rw [e1] at nd
              exact (List.nodup_append.mp nd).2.2 a z a hat rfl
            have dn2 : Dn m.length ν' ⟨ν.c ++ [a], ν.h⟩ := ⟨fun {b} n z => by
              rcases z with z | z
              · rcases List.mem_append.mp z with z | z
                · exact n (.inl (by rw [e1]; exact List.mem_append_left _ z))
                · rw [List.mem_singleton] at z
                  subst z
                  exact n (.inl (by rw [e1]; exact List.mem_append_right _ hat))
              · exact n (.inr (by rw [e.hid]; exact z)), fun {j b} hj h => by
                have h2 := dn.get hj h
                show (ν.c ++ [a])[j]? = some b
                rw [List.getElem?_append_left (List.getElem?_eq_some_iff.mp h2).1]
                exact h2⟩
            have hlt : (m'.take m.length).length = m.length := rb.len.symm.trans rm.len
            refine ⟨⟨ν.c ++ [a], ν.h⟩, ⟨⟨[a], rfl, fun b hb => by rw [List.mem_singleton] at hb; rw [hb]; exact ht a hat⟩, rfl, e.keep, e.own, e.more⟩, ?_, ?_, ?_, fun j c2 b h1 h2 => ?_, fun b z => rm'.hid b (by rw [e.hid]; exact z)⟩
            · simp only [RD]
              refine ⟨a, rfl, ?_⟩
              show (ν.c ++ [a])[m.length]? = some a
              rw [← rm.len]; simp
            · show (ν.c ++ [a]).length = _
              rw [List.length_append, List.length_append, hlt, rm.len]; rfl
            · exact List.nodup_append.mpr ⟨rm.nd, by simp, fun x hx y hy => by rw [List.mem_singleton] at hy; rintro rfl; exact hna (hy ▸ hx)⟩
            · replace h2 : (ν.c ++ [a])[j]? = some b := h2
              by_cases hj : j < m.length
              · rw [List.getElem?_append_left (by rw [hlt]; exact hj), List.getElem?_take_of_lt hj] at h1
                rw [List.getElem?_append_left (by rw [rm.len]; exact hj)] at h2
                have h3 : ν'.c[j]? = some b := e.get h2
                have hc2 := rm'.at_ j c2 b h1 h3
                rcases oldOk_get ho hj h1 with z | z
                · have := RC_low (rm.at_ j c2 b z h2)
                  rw [rm.len] at this
                  exact RC.down dn2 this hc2
                · exact RC.down dn2 z hc2
              · have ej : j = m.length := by
                  have := (List.getElem?_eq_some_iff.mp h1).1
                  rw [List.length_append, hlt] at this
                  simp at this
                  omega
                subst ej
                rw [List.getElem?_append_right (by rw [hlt]; exact Nat.le_refl _), hlt, Nat.sub_self] at h1
                rw [← rm.len, List.getElem?_append_right (Nat.le_refl _), Nat.sub_self] at h2
                simp at h1 h2
                subst h1 h2
                exact RC.down dn2 hi.1 (rm'.at_ _ _ a hc ha)
          · exact ⟨ν', e, rd, rm'⟩
        · exact ⟨ν', e, rd, rm'⟩
      · exact ⟨ν', e, rd, rm'⟩
  · exact ⟨ν', e, rd, rm'⟩
theorem RX.down (e : Dn n ν ν') {c : Nat} {fs : List D} {dx : Option Addr} (l : D.lows n fs = true) (h : RX A ν H c fs dx) : RX A ν' H c fs dx := by
  match fs, h, l with
  | [], h, _ => exact h
  | [d], h, l =>
    obtain ⟨a, v, h1, h2, h3⟩ := h
    simp only [D.lows, Bool.and_true] at l
    exact ⟨a, v, h1, h2, RD.down e d v l h3⟩
theorem cutX_out {c : Nat} {fs : List D} {dx : Option Addr} (rm : RM A ν H m) (e : Ext ν H ν' H') (rx : RX A ν' H' c fs dx) (rm' : RM A ν' H' m') : ∃ ν2, Ext ν H ν2 H' ∧ RX A ν2 H' c fs dx ∧ RM A ν2 H' (cutX m fs m') := by
  unfold cutX
  split
  · rename_i ho
    rw [Bool.and_eq_true] at ho
    obtain ⟨dn, ex, rb⟩ := back_mem rm e rm' ho.1
    exact ⟨ν, ex, RX.down dn ho.2 rx, rb⟩
  · exact ⟨ν', e, rx, rm'⟩
/-- a body's end is the call's -/
theorem ret_of {r : RS} {Q : VK} {E : XK} (rm : RM A ν H m) (o : Out A (RD A) ν H (retOf m r) Q E) : OutS A ν H r { nx := fun _ H' => Q .non H', rt := Q } (fun cls d _ H => E cls d H) := by
  cases r with
  | ok fl ρ m' =>
    intro ν' H' σ' e re rm'
    cases fl with
    | nx =>
      obtain ⟨ν2, h1, h2, h3⟩ := cut_out (d := .non) (v := .non) rm e (by simp only [RD]) rm'
      exact o _ _ _ h1 h2 h3
    | bk => exact o.elim
    | ct => exact o.elim
    | rt d =>
      intro v rd
      obtain ⟨ν2, h1, h2, h3⟩ := cut_out rm e rd rm'
      exact o _ _ _ h1 h2 h3
  | exc c fs ρ m' =>
    intro dx ν' H' σ' e re rx rm'
    obtain ⟨ν2, h1, h2, h3⟩ := cutX_out rm e rx rm'
    exact o _ _ _ h1 h2 h3
  | bad => exact o
end

/-! ### functions -/
/-- where a def stands: a global, a method, a property's getter -/
inductive Loc where
  | g (x : Str) | m (x m : Str) | p (x m : Str)
structure FnT where
  at_ : Loc
  ps : List Str
  N : List Str
  qual : Str
  name : Str
  args : Arguments
  body : List Stmt
  scope : Scope
def scB (N ps : List Str) (sc : Scope) : Bool :=
  (match sc.kind with | .function => true | _ => false) && !sc.isCoroutine && !sc.isGenerator && decide N.Nodup && decide (N.take ps.length = ps) &&
  (ps.all fun x => decide (sc.names.lookup x = some .local) || decide (sc.names.lookup x = some .cell)) && (sc.names.all fun y => decide (y.2 ≠ .free))
theorem scB_ok {N ps : List Str} {sc : Scope} (h : scB N ps sc = true) : FnScope N ps sc := by
  unfold scB at h
  simp only [Bool.and_eq_true, Bool.not_eq_true', decide_eq_true_eq, List.all_eq_true, Bool.or_eq_true] at h
  obtain ⟨⟨⟨⟨⟨⟨h1, h2⟩, h3⟩, h4⟩, h5⟩, h6⟩, h7⟩ := h
  refine ⟨?_, h2, h3, h4, h5, h6, h7⟩
  split at h1
  · assumption
  · cases h1
def chkFn (L : Lk) (fn : Fn) (t : FnT) : Bool := decide (fn.nargs = t.ps.length) && decide (fn.nslots = t.N.length) && scB t.N t.ps t.scope && chkSs L ⟨t.N, t.scope, fun _ => true⟩ fn.body t.body
/-- what is known of the functions and of the module -/
structure Head (L : Lk) (A : Ad) (P : Prg) (Ts : List FnT) (K : PySem.W.Frag) (mg : Str → Option Value) : Prop where
  hK : A.K = K
  len : Ts.length = P.funs.length
  chk : ∀ (f : Nat) (t : FnT), Ts[f]? = some t → ∃ fn, P.funs[f]? = some fn ∧ chkFn L fn t = true
  fns : ∀ (f : Nat) (t : FnT), Ts[f]? = some t → ∃ fd, FunD K t.name t.qual t.args t.body t.scope [] [] (A.fa f) fd ∧ Binds K fd t.ps []
  names : ∀ (f : Nat) (x : Str), L.fname[f]? = some x → (∃ t, Ts[f]? = some t) ∧ mg x = some (.ref (A.fa f))
  consts : ∀ (i : Nat) (x : Str), L.gname[i]? = some x → ∃ d v u, P.consts[i]? = some d ∧ mg x = some u ∧ RelV v u ∧ ∀ ν H, RD A ν H d v
  free : ∀ x ∈ bnames, mg x = none
  clss : ∀ c cl, P.cls[c]? = some cl → CF K A P c cl
  cnames : ∀ (c : Nat) (x : Str), L.cname[c]? = some x → (∃ cl, P.cls[c]? = some cl) ∧ mg x = some (.ref (A.ca c))
theorem callN_len {P : Prg} {k f : Nat} {fn : Fn} {ds : List D} {m : Mem} (h : P.funs[f]? = some fn) (hl : ds.length ≠ fn.nargs) : callN P k f ds m = .bad := by
  cases k with
  | zero => rfl
  | succ k => simp only [callN, h, if_neg hl]
theorem callN_no {P : Prg} {k f : Nat} {ds : List D} {m : Mem} (h : P.funs[f]? = none) : callN P k f ds m = .bad := by
  cases k with
  | zero => rfl
  | succ k => simp only [callN, h]
theorem fns_ok {L : Lk} {A : Ad} {P : Prg} {Ts : List FnT} {K : PySem.W.Frag} {mg : Str → Option Value} (hd : Head L A P Ts K mg) (Pr : Program) (w : World) (base : Heap) : ∀ (k f : Nat) (t : FnT) (fd : FuncData), Ts[f]? = some t → FunD K t.name t.qual t.args t.body t.scope [] [] (A.fa f) fd →
    FnOk Pr w K mg base (L2.CX Pr w) (3 * k) (A.fa f) fd t.ps (spC A t.ps.length (callN P k f))
  | 0, f, t, fd, ht, F => ⟨fun vs H Q E ⟨_, _, _, h, _⟩ => h, fun _ _ _ _ _ _ _ _ _ _ _ _ _ ⟨_, _, _, _, _, _, h⟩ => h.elim⟩
  | k + 1, f, t, fd, ht, F => by
    obtain ⟨fn, hfn, hchk⟩ := hd.chk f t ht
    unfold chkFn at hchk
    simp only [Bool.and_eq_true, decide_eq_true_eq] at hchk
    obtain ⟨⟨⟨c1, c2⟩, c3⟩, c4⟩ := hchk
    have S := scB_ok c3
    have hlen : ∀ (f' : Nat) (t' : FnT), Ts[f']? = some t' → ∀ ds m, ds.length ≠ t'.ps.length → callN P k f' ds m = .bad := fun f' t' ht' ds m hl => by
      obtain ⟨fn', hfn', hchk'⟩ := hd.chk f' t' ht'
      unfold chkFn at hchk'
      simp only [Bool.and_eq_true, decide_eq_true_eq] at hchk'
      exact callN_len hfn' (by rw [hchk'.1.1.1]; exact hl)
    have T : Lnk L A P (callN P k) (3 * k) Pr w K mg base := ⟨hd.hK, fun f' x hx => by
      obtain ⟨⟨t', ht'⟩, g'⟩ := hd.names f' x hx
      obtain ⟨fd', F', b'⟩ := hd.fns f' t' ht'
      exact ⟨fd', t'.ps, t'.ps.length, g', F'.kp, fns_ok hd Pr w base k f' t' fd' ht' F', b', hlen f' t' ht'⟩, hd.consts, hd.free, hd.clss, hd.cnames, fun f' => by
      cases ht' : Ts[f']? with
      | none =>
        have hno : P.funs[f']? = none := by
          rw [List.getElem?_eq_none_iff] at ht' ⊢
          rw [← hd.len]; exact ht'
        intro A' outer s H us vs Q E hr e0 r ⟨ν, ds, m, _, _, o⟩
        rw [callN_no hno] at o
        exact o.elim
      | some t' =>
        obtain ⟨fd', F', b'⟩ := hd.fns f' t' ht'
        refine ((fns_ok hd Pr w base k f' t' fd' ht' F').raw b' .nil).imp fun vs H Q E ⟨ν, ds, m, r1, r2, o⟩ => ?_
        rw [List.append_nil]
        refine ⟨ν, ds, m, ?_, r1, r2, o⟩
        rw [r1.length]
        by_cases z : ds.length = t'.ps.length
        · exact z
        · rw [hlen f' t' ht' ds m z] at o
          exact o.elim⟩
    refine F.ok (k := 3 * k + 2) S (fun vs H Q E ⟨_, _, _, h, _⟩ => h) fun cdv A' outer s H vs Q E hr hsp => ⟨_, sndSs (X := cxOf (L2.CX Pr w) Pr w K mg base t.N t.qual t.scope (A.fa f) cdv A' outer s H E) (W := fun cls d _ H => E cls d H) T
      ⟨rfl, S.nd, rfl, S.kind, rfl, rfl, hr, takes_of rfl rfl rfl rfl⟩ (passes_of rfl) fn.body t.body c4, ?_⟩
    obtain ⟨ν, ds, m, hl, rds, rm, o⟩ := hsp
    have hdl : ds.length = fn.nargs := by rw [← rds.length, hl, c1]
    simp only [callN, hfn, if_pos hdl] at o
    refine ⟨ν, startE fn.nslots ds, m, ?_, rm, ret_of rm o⟩
    have := RE.start rds fn.nslots
    rw [c2] at this ⊢
    exact this
end Rf

/-! R13: from the head to the law. -/
namespace Rf
open PySem PySem.Spec PyProof.Rows L2
def clsSts : Stmt → List Stmt
  | .ClassDef _ _ _ b _ _ _ _ _ _ _ => b
  | _ => []
def inCls (st : Stmt) (i : Nat) : Stmt := (clsSts st).getD i (.Pass ⟨0, 0, 0, 0⟩)
def ftOf (l : Loc) (ps N : List Str) (qual name : Str) (st : Stmt) : FnT := ⟨l, ps, N, qual, name, defArgs st, defBody st, defScope st⟩
def locA (K : PySem.W.Frag) : Loc → Addr
  | .g x => He.ga K x
  | .m x m => He.ma K (He.ga K x) m
  | .p x m => match PySem.W.recIn K (He.ma K (He.ga K x) m) "property" with
    | some (.ref g :: _) => g
    | _ => 0
def dOf (t : FnT) : He5.DefA := ⟨fun K => locA K t.at_, t.name, t.qual, t.args, t.body, t.scope, [], []⟩
def caOf (c : Str × D) : He.Fa := match c.2 with
  | .int i => .int c.1 i
  | .str z => .str c.1 z
  | _ => .glo c.1
def gname : FnT → List Str
  | ⟨.g x, _, _, _, _, _, _, _⟩ => [x]
  | _ => []
def faOf (fnames cnames : List Str) (cs : List (Str × D)) : List He.Fa := fnames.map He.Fa.glo ++ cnames.map He.Fa.glo ++ cs.map caOf ++ bnames.map He.Fa.free
def lkOf (fnames cnames : List Str) (cs : List (Str × D)) : Lk := ⟨fnames, cnames, cs.map (·.1)⟩
def BindOk (t : FnT) : Prop := ∀ (kV doc pm : Value) (an : Option Addr) (cdv ct : Value) (us : List Value), us.length = t.ps.length →
  bindArgs (PySem.W.fnOf t.name t.qual t.args t.body t.scope .none kV doc pm an cdv ct) ⟨us, []⟩ = pure (t.ps.zip us)
def adOf (Ts : List FnT) (cnames : List Str) (K : PySem.W.Frag) : Ad := ⟨K, fun c => He.ga K (cnames.getD c ""), fun f => locA K ((Ts.map (·.at_)).getD f (.g "")), fun _ => ""⟩
def simpleC : D → Bool
  | .int _ => true
  | .str _ => true
  | _ => false

/-! ### a class's facts as one Boolean -/
def eqB {α : Type} [DecidableEq α] (a b : α) : Bool := decide (a = b)
def slotB (K : PySem.W.Frag) (C : Addr) (f : Str) (i : Nat) : Bool := match PySem.W.findIn K (.ref C) f with
  | some (some (.ref p)) => He.eqO (PySem.W.specialIn K (.ref p) "__get__") (some (some (.builtin "member_descriptor.__get__"))) && (eqB (PySem.W.takesIn K (.ref p)) (some true) && (eqB (PySem.W.typeIn K (.ref p)) (some (.type "member_descriptor")) &&
    (eqB (PySem.W.slotIn K p C) (some i) && decide (i < 1000))))
  | _ => false
def slotsB (K : PySem.W.Frag) (C : Addr) : List Str → Nat → Bool
  | [], _ => true
  | f :: fs, i => slotB K C f i && slotsB K C fs (i + 1)
def methB (K : PySem.W.Frag) (C : Addr) (n : Str) (g : Addr) : Bool := He.eqO (PySem.W.findIn K (.ref C) n) (some (some (.ref g))) && (PySem.W.isFn K (.ref g) && PySem.W.keepIn K (.ref g))
def propB (K : PySem.W.Frag) (C : Addr) (n : Str) (g : Addr) : Bool := match PySem.W.findIn K (.ref C) n with
  | some (some (.ref p)) => He.eqO (PySem.W.specialIn K (.ref p) "__get__") (some (some (.builtin "property.__get__"))) && (eqB (PySem.W.takesIn K (.ref p)) (some true) && (match PySem.W.recIn K p "property" with
    | some (.ref q :: _) => decide (q = g)
    | _ => false))
  | _ => false
def clsB (K : PySem.W.Frag) (A : Ad) (nc : Nat) (c : Nat) (cl : Cl) : Bool :=
  let C := A.ca c
  (PySem.W.plainGet K C Str.empty && (PySem.W.isClsIn K C && (PySem.W.plainOver K C && He.eqO (PySem.W.findIn K (.ref C) "__setattr__") (some (some (.builtin "object.__setattr__")))))) &&
  ((He.eqO (PySem.W.findIn K (.ref C) "__class__") (some (some (.builtin "object.__class__"))) && (He.eqO (PySem.W.specialIn K (.builtin "object.__class__") "__get__") (some (some (.builtin "getset_descriptor.__get__"))) &&
    (eqB (PySem.W.takesIn K (.builtin "object.__class__")) (some true) && eqB (PySem.W.mroIn K C (.type "object")) (some true)))) &&
  (slotsB K C cl.fields 0 && ((cl.meths.all fun p => methB K C p.1 (A.fa p.2)) && ((cl.props.all fun p => propB K C p.1 (A.fa p.2)) &&
  ((PySem.W.makesIn K C && (methB K C "__init__" (A.fa cl.init) && PySem.W.keepIn K (.ref C))) &&
  ((tyNames.all fun T => PySem.W.notFirst K C (.type T) && (eqB (PySem.W.kitOne K (.type T) (.ref C)) (some false) && eqB (PySem.W.kitOne K (.ref C) (.type T)) (some false))) &&
  ((List.range nc).all fun c' => PySem.W.notFirst K C (.ref (A.ca c')) && eqB (PySem.W.kitOne K (.ref (A.ca c')) (.ref C)) (some (decide (c' = c))))))))))
theorem slots_ok {K : PySem.W.Frag} {C : Addr} : ∀ {fs : List Str} {k i : Nat} {f : Str}, slotsB K C fs k = true → fs[i]? = some f → ∃ p, SlX.Slot1 K C f p (k + i)
  | [], _, _, _, _, h => by simp at h
  | g :: fs, k, 0, f, h, e => by
    obtain ⟨h1, _⟩ := He.ba h
    simp at e
    subst e
    unfold slotB at h1
    split at h1
    · rename_i p hp
      obtain ⟨a1, h1⟩ := He.ba h1
      obtain ⟨a2, h1⟩ := He.ba h1
      obtain ⟨a3, h1⟩ := He.ba h1
      obtain ⟨a4, a5⟩ := He.ba h1
      exact ⟨p, hp, He.eqO_ok a1, of_decide_eq_true a2, of_decide_eq_true a3, of_decide_eq_true a4, of_decide_eq_true a5⟩
    · cases h1
  | g :: fs, k, i + 1, f, h, e => by
    obtain ⟨_, h2⟩ := He.ba h
    have := slots_ok (k := k + 1) (i := i) h2 (by simpa using e)
    rw [show k + (i + 1) = k + 1 + i by omega]
    exact this
theorem methB_ok {K : PySem.W.Frag} {C g : Addr} {n : Str} (h : methB K C n g = true) : Meth K C n g := by
  obtain ⟨a1, h1⟩ := He.ba h
  obtain ⟨a2, a3⟩ := He.ba h1
  exact ⟨He.eqO_ok a1, a2, a3⟩
theorem propB_ok {K : PySem.W.Frag} {C g : Addr} {n : Str} (h : propB K C n g = true) : PropF K C n g := by
  unfold propB at h
  split at h
  · rename_i p hp
    obtain ⟨a1, h1⟩ := He.ba h
    obtain ⟨a2, a3⟩ := He.ba h1
    split at a3
    · rename_i q rest hr
      rw [of_decide_eq_true a3] at hr
      exact ⟨p, hp, He.eqO_ok a1, of_decide_eq_true a2, rest, hr⟩
    · cases a3
  · cases h
theorem lookup_mem {β : Type} {n : Str} {v : β} : ∀ {l : List (Str × β)}, l.lookup n = some v → (n, v) ∈ l
  | [], h => by simp at h
  | (k, w) :: l, h => by
    rw [List.lookup_cons] at h
    split at h
    · rename_i e
      cases h
      rw [beq_iff_eq.mp e]
      exact List.mem_cons_self
    · exact List.mem_cons_of_mem _ (lookup_mem h)
theorem clsB_ok {K : PySem.W.Frag} {A : Ad} {P : Prg} {c : Nat} {cl : Cl} (h : clsB K A P.cls.length c cl = true) : CF K A P c cl := by
  obtain ⟨h1, h⟩ := He.ba h
  obtain ⟨h2, h⟩ := He.ba h
  obtain ⟨h3, h⟩ := He.ba h
  obtain ⟨h4, h⟩ := He.ba h
  obtain ⟨h5, h⟩ := He.ba h
  obtain ⟨h6, h⟩ := He.ba h
  obtain ⟨h7, h8⟩ := He.ba h
  obtain ⟨a1, h1⟩ := He.ba h1
  obtain ⟨a2, h1⟩ := He.ba h1
  obtain ⟨a3, a4⟩ := He.ba h1
  obtain ⟨b1, h2⟩ := He.ba h2
  obtain ⟨b2, h2⟩ := He.ba h2
  obtain ⟨b3, b4⟩ := He.ba h2
  obtain ⟨d1, h6⟩ := He.ba h6
  obtain ⟨d2, d3⟩ := He.ba h6
  have m := methB_ok d2
  have ty : ∀ T ∈ tyNames, PySem.W.notFirst K (A.ca c) (.type T) = true ∧ PySem.W.kitOne K (.type T) (.ref (A.ca c)) = some false ∧ PySem.W.kitOne K (.ref (A.ca c)) (.type T) = some false := fun T hT => by
    obtain ⟨x1, x⟩ := He.ba (List.all_eq_true.mp h7 T hT)
    obtain ⟨x2, x3⟩ := He.ba x
    exact ⟨x1, of_decide_eq_true x2, of_decide_eq_true x3⟩
  have cc : ∀ c' cl', P.cls[c']? = some cl' → PySem.W.notFirst K (A.ca c) (.ref (A.ca c')) = true ∧ PySem.W.kitOne K (.ref (A.ca c')) (.ref (A.ca c)) = some (decide (c' = c)) := fun c' cl' hc => by
    obtain ⟨x1, x2⟩ := He.ba (List.all_eq_true.mp h8 c' (List.mem_range.mpr (List.getElem?_eq_some_iff.mp hc).1))
    exact ⟨x1, of_decide_eq_true x2⟩
  exact ⟨⟨a1, a2, a3, He.eqO_ok a4⟩, ⟨He.eqO_ok b1, He.eqO_ok b2, of_decide_eq_true b3, of_decide_eq_true b4⟩, fun i f hf => by
      have := slots_ok (i := i) h3 hf
      rw [Nat.zero_add] at this
      exact this,
    fun n f hf => methB_ok (List.all_eq_true.mp h4 _ (lookup_mem hf)), fun n f hf => propB_ok (List.all_eq_true.mp h5 _ (lookup_mem hf)), ⟨d1, m.at_, m.fn, d3⟩,
    fun c' cl' hc => (cc c' cl' hc).1, fun T hT => (ty T hT).1, fun c' cl' hc => (cc c' cl' hc).2, fun T hT => (ty T hT).2.1, fun T hT => (ty T hT).2.2⟩
def clssB (K : PySem.W.Frag) (A : Ad) (nc : Nat) : Nat → List Cl → Bool
  | _, [] => true
  | c, cl :: r => clsB K A nc c cl && clssB K A nc (c + 1) r
theorem clssB_ok {K : PySem.W.Frag} {A : Ad} {nc : Nat} : ∀ {l : List Cl} {k c : Nat} {cl : Cl}, clssB K A nc k l = true → l[c]? = some cl → clsB K A nc (k + c) cl = true
  | [], _, _, _, _, h => by simp at h
  | x :: l, k, 0, cl, h, e => by
    simp at e
    subst e
    exact (He.ba h).1
  | x :: l, k, c + 1, cl, h, e => by
    have := clssB_ok (k := k + 1) (c := c) (He.ba h).2 (by simpa using e)
    rw [show k + (c + 1) = k + 1 + c by omega]
    exact this

/-! ### the hook -/
def obsC (fa : List He.Fa) (fn : List He5.DefA) (ex : PySem.W.Frag → Bool) (K : PySem.W.Frag) : He.AlD := ((He5.obsA fa fn K).1 && ex K, (He5.obsA fa fn K).2)
def obsCG (n : Nat) (fa : List He.Fa) (fn : List He5.DefA) (ex : PySem.W.Frag → Bool) (g : Addr → Option Obj) : He.AlD := obsC fa fn ex (He.frG g (He5.asA g n))
theorem obsC_ok {fa : List He.Fa} {fn : List He5.DefA} {ex : PySem.W.Frag → Bool} {K : PySem.W.Frag} (h : obsC fa fn ex K = He5.valA fn) : He5.SaysA fa fn K ∧ ex K = true := by
  have h1 := congrArg (fun z : He.AlD => z.1) h
  have h2 := congrArg (fun z : He.AlD => z.2) h
  obtain ⟨a, b⟩ := He.ba (show ((He5.obsA fa fn K).1 && ex K) = true from h1)
  exact ⟨Prod.ext a h2, b⟩
def hookC (n : Nat) (fa : List He.Fa) (fn : List He5.DefA) (ex : PySem.W.Frag → Bool) : PySem.W.Hook where
  α := He.AlD
  obs := fun s => obsCG n fa fn ex s.heap.get?
  val := fun _ => He5.valA fn
  says := fun _ h => ∃ K : PySem.W.Frag, K.In h ∧ (He5.SaysA fa fn K ∧ ex K = true)
  of := fun _ _ e => ⟨_, He.frG_in, obsC_ok e⟩
  keeps := fun _ _ _ ⟨K, hK, c⟩ k => ⟨K, PySem.W.Frag.In.keeps hK k, c⟩
theorem obsCG_eq {n : Nat} {fa : List He.Fa} {fn : List He5.DefA} {ex : PySem.W.Frag → Bool} {g : Addr → Option Obj} {s : Shared} (h : ∀ a, g a = s.heap.get? a) : obsCG n fa fn ex g = (hookC n fa fn ex).obs s := by
  have e : g = s.heap.get? := funext h
  rw [e] <;> rfl

theorem fa_mem {fa : List He.Fa} {Ts : List FnT} {K : PySem.W.Frag} (c : He5.SaysA fa (Ts.map dOf) K) {f : He.Fa} (h : f ∈ fa) : f.ok K = true := by
  obtain ⟨i, hi⟩ := List.mem_iff_getElem?.mp h
  exact c.fact i hi
theorem head_of {Ts : List FnT} {fnames cnames : List Str} {cs : List (Str × D)} {funs : List Fn} {cls : List Cl} (hlen : Ts.length = funs.length) (hcl : cnames.length = cls.length) (hfn : fnames.map Loc.g = (Ts.map (·.at_)).take fnames.length) (hchk : ((funs.zip Ts).all fun p => chkFn (lkOf fnames cnames cs) p.1 p.2) = true) (hcs : (cs.all fun c => simpleC c.2) = true) (hb : ∀ t ∈ Ts, BindOk t)
    {K : PySem.W.Frag} {h : Heap} {mg : Str → Option Value} (X : K.In h) (G : h.Ns mainGlobals mg) (c : He5.SaysA (faOf fnames cnames cs) (Ts.map dOf) K) (cx : clssB K (adOf Ts cnames K) cls.length 0 cls = true) : Head (lkOf fnames cnames cs) (adOf Ts cnames K) ⟨funs, cls, cs.map (·.2)⟩ Ts K mg where
  hK := rfl
  len := hlen
  chk := fun f t ht => by
    have hl : f < funs.length := by rw [← hlen]; exact (List.getElem?_eq_some_iff.mp ht).1
    refine ⟨funs[f], List.getElem?_eq_getElem hl, ?_⟩
    have hz : (funs.zip Ts)[f]? = some (funs[f], t) := by
      rw [List.getElem?_zip_eq_some]
      exact ⟨List.getElem?_eq_getElem hl, ht⟩
    exact List.all_eq_true.mp hchk _ (List.mem_of_getElem? hz)
  fns := fun f t ht => by
    obtain ⟨fd, F⟩ := c.def_ f (d := dOf t) (by rw [List.getElem?_map, ht]; rfl)
    have ea : (adOf Ts cnames K).fa f = locA K t.at_ := by
      show locA K ((Ts.map (·.at_)).getD f (.g "")) = _
      rw [List.getD_eq_getElem?_getD, List.getElem?_map, ht]
      rfl
    exact ⟨fd, by rw [ea]; exact F, F.bindsN (hb t (List.mem_of_getElem? ht))⟩
  names := fun f x hx => by
    change fnames[f]? = some x at hx
    have hlt := (List.getElem?_eq_some_iff.mp hx).1
    have e1 : ((Ts.map (·.at_)).take fnames.length)[f]? = some (Loc.g x) := by rw [← hfn, List.getElem?_map, hx]; rfl
    rw [List.getElem?_take_of_lt hlt, List.getElem?_map, Option.map_eq_some_iff] at e1
    obtain ⟨t, ht, et⟩ := e1
    have ea : (adOf Ts cnames K).fa f = He.ga K x := by
      show locA K ((Ts.map (·.at_)).getD f (.g "")) = _
      rw [List.getD_eq_getElem?_getD, List.getElem?_map, ht]
      show locA K t.at_ = _
      rw [et]
      rfl
    refine ⟨⟨t, ht⟩, ?_⟩
    rw [ea]
    exact He.glo_ok X G (fa_mem c (List.mem_append_left _ (List.mem_append_left _ (List.mem_append_left _ (List.mem_map.mpr ⟨x, List.mem_of_getElem? hx, rfl⟩)))))
  consts := fun i x hx => by
    change (cs.map (·.1))[i]? = some x at hx
    rw [List.getElem?_map, Option.map_eq_some_iff] at hx
    obtain ⟨⟨y, d⟩, h1, rfl⟩ := hx
    have hm := List.mem_of_getElem? h1
    have hs := List.all_eq_true.mp hcs _ hm
    have ho := fa_mem c (f := caOf (y, d)) (List.mem_append_left _ (List.mem_append_right _ (List.mem_map.mpr ⟨_, hm, rfl⟩)))
    have hc : (cs.map (·.2))[i]? = some d := by rw [List.getElem?_map, h1]; rfl
    cases d with
    | int j =>
      obtain ⟨t, e⟩ := He.int_ok X G ho
      exact ⟨.int j, .int j, _, hc, e, ⟨t, rfl⟩, fun ν H => by simp only [RD]⟩
    | str z =>
      obtain ⟨t, e⟩ := He.str_ok X G ho
      exact ⟨.str z, .str z, _, hc, e, ⟨t, rfl⟩, fun ν H => by simp only [RD]⟩
    | _ => cases hs
  free := fun x hx => He.free_ok X G (fa_mem c (List.mem_append_right _ (List.mem_map.mpr ⟨x, hx, rfl⟩)))
  clss := fun k cl hk => by
    have := clssB_ok cx hk
    rw [Nat.zero_add] at this
    exact clsB_ok this
  cnames := fun k x hx => by
    change cnames[k]? = some x at hx
    have hlt := (List.getElem?_eq_some_iff.mp hx).1
    rw [hcl] at hlt
    have ea : (adOf Ts cnames K).ca k = He.ga K x := by
      show He.ga K (cnames.getD k "") = _
      rw [List.getD_eq_getElem?_getD, hx]
      rfl
    refine ⟨⟨_, List.getElem?_eq_getElem hlt⟩, ?_⟩
    rw [ea]
    exact He.glo_ok X G (fa_mem c (List.mem_append_left _ (List.mem_append_left _ (List.mem_append_right _ (List.mem_map.mpr ⟨x, List.mem_of_getElem? hx, rfl⟩)))))
/-- the law's own def -/
theorem law_of {L : Lk} {P : Prg} {Ts : List FnT} {cnames : List Str} {K : PySem.W.Frag} {mg : Str → Option Value} {Pr : Program} {w : World} {lev li : Nat} {t : FnT} {x : Str} {fa : Addr} (hd : Head L (adOf Ts cnames K) P Ts K mg) (ht : Ts[li]? = some t) (hx : L.fname[li]? = some x) (hp : t.ps = [("script" : Str)])
    (hb : BindOk t) (hmg : mg x = some (.ref fa)) (hpure : ∀ ns : List Int, ns.length ≤ 63 → ∃ m, callN P lev li [.scr ns] [] = .ok (.bl true, m)) :
    ∃ (fd : FuncData) (sp : Sp), (∀ (s : Shared) (u : Value), BindsTo s fd ⟨[u], []⟩ [("script", u)]) ∧
      (∀ (H : Hp) (a : Addr) (ns : List Int), ns.length ≤ 63 → Only H → SqL K H a (ns.map V.int) → sp [.ref a] H (fun v _ => v = .bl true) fun _ _ _ => False) ∧
      ∀ base : Heap, FnOk Pr w K mg base (L2.CX Pr w) (3 * lev) fa fd [("script" : Str)] sp := by
  obtain ⟨fd, F, b⟩ := hd.fns li t ht
  obtain ⟨_, g⟩ := hd.names li x hx
  rw [g] at hmg
  have ef : (adOf Ts cnames K).fa li = fa := by
    have := Option.some.inj hmg
    injection this
  refine ⟨fd, spC (adOf Ts cnames K) t.ps.length (callN P lev li), fun s u => ?_, fun H a ns hl _ hS => ?_, fun base => ?_⟩
  · have := FunD.bindsA (ps := t.ps) F hb s [u] (by rw [hp]; rfl)
    rw [hp] at this
    exact this
  · obtain ⟨m, e⟩ := hpure ns hl
    refine ⟨⟨[], []⟩, [.scr ns], [], by rw [hp]; rfl, .cons ?_ .nil, ⟨rfl, List.nodup_nil, fun i c a h _ => by simp at h, fun a h => by cases h⟩, ?_⟩
    · simp only [RD]
      refine ⟨a, rfl, ?_⟩
      rcases hS with h | h
      · refine .inl ⟨fun z => ?_, h⟩
        rcases z with z | z <;> cases z
      · exact .inr fun _ => .inr h
    · rw [e]
      intro v ν' H' _ rd _
      simpa only [RD] using rd
  · have := fns_ok hd Pr w base lev li t fd ht F
    rw [hp, ef] at this
    rw [hp]
    exact this
/-- a def that lets nothing out -/
theorem quiet {Pr : Program} {w : World} {K : PySem.W.Frag} {mg : Str → Option Value} {base : Heap} {k : Nat} {f : Addr} {fd : FuncData} {ps : List Str} {sp : Sp} (F : FnOk Pr w K mg base (L2.CX Pr w) k f fd ps sp) :
    FnOk Pr w K mg base CX0 k f fd ps fun vs H Q _ => sp vs H Q fun _ _ _ => False := by
  refine ⟨fun vs H Q _ h => F.len vs H Q _ h, fun A outer s H args us vs Q E hr he hb hv hs => codeAny_mono (F.run A outer s H args us vs Q _ hr he hb hv hs) fun r s' q => ?_⟩
  cases r with
  | ok fl => cases fl <;> exact q
  | error e =>
    obtain ⟨_, _, _, _, _, _, _, _, _, _, _, _, z⟩ := (show L2.CX Pr w outer H s (fun _ _ _ => False) e s' from q)
    exact z.elim
end Rf

/-! R14: reasoning about what the own syntax computes. -/
namespace Rf
def okP {α : Type} (r : R α) (Q : α → Prop) : Prop := match r with
  | .ok a => Q a
  | _ => False
/-- it ends well, with Q (a structure: the elaborator does not run it) -/
structure Ok {α : Type} (r : R α) (Q : α → Prop) : Prop where
  out : okP r Q
def okS (r : RS) (Q : Fl → Env → Mem → Prop) : Prop := match r with
  | .ok f ρ m => Q f ρ m
  | _ => False
structure OkS (r : RS) (Q : Fl → Env → Mem → Prop) : Prop where
  out : okS r Q
theorem Ok_def {α : Type} {r : R α} {Q : α → Prop} : Ok r Q = okP r Q := propext ⟨fun h => h.out, fun h => ⟨h⟩⟩
theorem OkS_def {r : RS} {Q : Fl → Env → Mem → Prop} : OkS r Q = okS r Q := propext ⟨fun h => h.out, fun h => ⟨h⟩⟩
section
variable {α β : Type} {Q Q' : α → Prop}
theorem Ok_ok {a : α} : Ok (.ok a) Q = Q a := Ok_def
theorem Ok_bad : Ok (.bad : R α) Q = False := Ok_def
theorem Ok_exc {c : Nat} {fs : List D} {m : Mem} : Ok (.exc c fs m : R α) Q = False := Ok_def
theorem Ok_bind {r : R β} {f : β → R α} : Ok (r.bind f) Q = Ok r fun b => Ok (f b) Q := by
  rw [Ok_def, Ok_def]
  cases r with
  | ok b => exact Ok_def.symm
  | _ => rfl
theorem Ok_if {c : Prop} [Decidable c] {a b : R α} : Ok (if c then a else b) Q = if c then Ok a Q else Ok b Q := by split <;> rfl
theorem Ok_ifb {c : Prop} [Decidable c] {r : R α} : Ok (if c then r else .bad) Q = (c ∧ Ok r Q) := by
  by_cases h : c <;> simp [h, Ok_bad]
theorem Ok_nox {r : R α} : Ok (nox r) Q = Ok r Q := by
  rw [Ok_def, Ok_def]
  cases r <;> rfl
theorem Ok.imp {r : R α} (h : Ok r Q) (k : ∀ a, Q a → Q' a) : Ok r Q' := by
  rw [Ok_def] at h ⊢
  cases r with
  | ok a => exact k a h
  | _ => exact h
theorem Ok.val {r : R α} (h : Ok r Q) : ∃ a, r = .ok a ∧ Q a := by
  rw [Ok_def] at h
  cases r with
  | ok a => exact ⟨a, rfl, h⟩
  | _ => exact h.elim
theorem Ok_of {r : R α} {a : α} (e : r = .ok a) : Ok r Q = Q a := by rw [e, Ok_ok]
end
section
variable {Q Q' : Fl → Env → Mem → Prop}
theorem OkS_ok {f : Fl} {ρ : Env} {m : Mem} : OkS (.ok f ρ m) Q = Q f ρ m := OkS_def
theorem OkS_bad : OkS .bad Q = False := OkS_def
theorem OkS_exc {c : Nat} {fs : List D} {ρ : Env} {m : Mem} : OkS (.exc c fs ρ m) Q = False := OkS_def
theorem OkS_if {c : Prop} [Decidable c] {a b : RS} : OkS (if c then a else b) Q = if c then OkS a Q else OkS b Q := by split <;> rfl
theorem OkS_lift {α : Type} {r : R (α × Mem)} {ρ : Env} {k : α → Mem → RS} : OkS (r.lift ρ k) Q = Ok r fun x => OkS (k x.1 x.2) Q := by
  rw [OkS_def, Ok_def]
  cases r with
  | ok x => exact OkS_def.symm
  | _ => rfl
def onN (k : Env → Mem → Prop) (Q : Fl → Env → Mem → Prop) : Fl → Env → Mem → Prop
  | .nx, ρ, m => k ρ m
  | .bk, ρ, m => Q .bk ρ m
  | .ct, ρ, m => Q .ct ρ m
  | .rt d, ρ, m => Q (.rt d) ρ m
def onT (k : Env → Mem → Prop) (Q : Fl → Env → Mem → Prop) : Fl → Env → Mem → Prop
  | .nx, ρ, m => k ρ m
  | .ct, ρ, m => k ρ m
  | .bk, ρ, m => Q .nx ρ m
  | .rt d, ρ, m => Q (.rt d) ρ m
theorem OkS_then {r : RS} {k : Env → Mem → RS} : OkS (r.andThen k) Q = OkS r (onN (fun ρ m => OkS (k ρ m) Q) Q) := by
  rw [OkS_def, OkS_def]
  cases r with
  | ok f ρ m => cases f <;> first | rfl | exact OkS_def.symm
  | _ => rfl
theorem OkS_turn {r : RS} {k : Env → Mem → RS} : OkS (r.turn k) Q = OkS r (onT (fun ρ m => OkS (k ρ m) Q) Q) := by
  rw [OkS_def, OkS_def]
  cases r with
  | ok f ρ m => cases f <;> first | rfl | exact OkS_def.symm
  | _ => rfl
theorem OkS.imp {r : RS} (h : OkS r Q) (k : ∀ f ρ m, Q f ρ m → Q' f ρ m) : OkS r Q' := by
  rw [OkS_def] at h ⊢
  cases r with
  | ok f ρ m => exact k f ρ m h
  | _ => exact h
def onR (m0 : Mem) (Q : D × Mem → Prop) : Fl → Env → Mem → Prop
  | .nx, _, m => Q (cut m0 .non m)
  | .rt d, _, m => Q (cut m0 d m)
  | _, _, _ => False
theorem Ok_ret {m0 : Mem} {r : RS} {Q : D × Mem → Prop} : Ok (retOf m0 r) Q = OkS r (onR m0 Q) := by
  rw [Ok_def, OkS_def]
  cases r with
  | ok f ρ m => cases f <;> rfl
  | _ => rfl
theorem onN_nx {k : Env → Mem → Prop} {ρ : Env} {m : Mem} : onN k Q .nx ρ m = k ρ m := Eq.trans rfl rfl
theorem onN_rt {k : Env → Mem → Prop} {ρ : Env} {m : Mem} {d : D} : onN k Q (.rt d) ρ m = Q (.rt d) ρ m := Eq.trans rfl rfl
theorem onN_bk {k : Env → Mem → Prop} {ρ : Env} {m : Mem} : onN k Q .bk ρ m = Q .bk ρ m := Eq.trans rfl rfl
theorem onN_ct {k : Env → Mem → Prop} {ρ : Env} {m : Mem} : onN k Q .ct ρ m = Q .ct ρ m := Eq.trans rfl rfl
theorem onT_nx {k : Env → Mem → Prop} {ρ : Env} {m : Mem} : onT k Q .nx ρ m = k ρ m := Eq.trans rfl rfl
theorem onT_ct {k : Env → Mem → Prop} {ρ : Env} {m : Mem} : onT k Q .ct ρ m = k ρ m := Eq.trans rfl rfl
theorem onT_bk {k : Env → Mem → Prop} {ρ : Env} {m : Mem} : onT k Q .bk ρ m = Q .nx ρ m := Eq.trans rfl rfl
theorem onT_rt {k : Env → Mem → Prop} {ρ : Env} {m : Mem} {d : D} : onT k Q (.rt d) ρ m = Q (.rt d) ρ m := Eq.trans rfl rfl
theorem onR_nx {m0 : Mem} {Q : D × Mem → Prop} {ρ : Env} {m : Mem} : onR m0 Q .nx ρ m = Q (cut m0 .non m) := Eq.trans rfl rfl
theorem onR_rt {m0 : Mem} {Q : D × Mem → Prop} {ρ : Env} {m : Mem} {d : D} : onR m0 Q (.rt d) ρ m = Q (cut m0 d m) := Eq.trans rfl rfl
end
/-! ### memory at a call's end -/
theorem oldOk_self (n : Nat) : ∀ m : Mem, oldOk n m m = true
  | [] => rfl
  | c :: m => by simp [oldOk, oldOk_self n m]
theorem oldOk_app (n : Nat) : ∀ m m' : Mem, oldOk n m (m ++ m') = true
  | [], _ => rfl
  | c :: m, m' => by simp [oldOk, oldOk_app n m m']
theorem cut_same (m : Mem) (d : D) : cut m d m = (d, m) := by
  unfold cut
  rw [if_pos (oldOk_self _ m), List.take_length]
  split
  · rfl
  · cases d with
    | ref i =>
      dsimp only
      cases h : m[i]? with
      | none => rfl
      | some c =>
        have hi := (List.getElem?_eq_some_iff.mp h).1
        have : decide (m.length ≤ i) = false := decide_eq_false (by omega)
        dsimp only
        rw [this, Bool.and_false]
        rfl
    | _ => rfl
theorem cut_low {m0 m : Mem} {d : D} (ho : oldOk m0.length m0 m = true) (hl : d.low m0.length = true) : cut m0 d m = (d, m.take m0.length) := by
  unfold cut
  rw [if_pos ho, if_pos hl]
/-! ### loops -/
section
variable {Q : Fl → Env → Mem → Prop} {cond : Env → Mem → R (Bool × Mem)} {body : Env → Mem → RS}
/-- while: an invariant with a measure below the fuel -/
theorem while_inv (I : Nat → Env → Mem → Prop) (h : ∀ μ ρ m, I μ ρ m → Ok (cond ρ m) fun r => if r.1 = true then OkS (body ρ r.2) (onT (fun ρ' m' => ∃ μ', μ' < μ ∧ I μ' ρ' m') Q) else Q .nx ρ r.2) :
    ∀ n μ ρ m, μ < n → I μ ρ m → OkS (whileN cond body n ρ m) Q
  | 0, _, _, _, hl, _ => absurd hl (Nat.not_lt_zero _)
  | n + 1, μ, ρ, m, hl, hi => by
    unfold whileN
    rw [OkS_lift]
    refine (h μ ρ m hi).imp fun r hr => ?_
    rw [OkS_if]
    by_cases hc : r.1 = true
    · rw [if_pos hc] at hr ⊢
      rw [OkS_turn]
      refine hr.imp fun f ρ' m' q => ?_
      cases f with
      | nx => obtain ⟨μ', h1, h2⟩ := q; exact while_inv I h n μ' ρ' m' (by omega) h2
      | ct => obtain ⟨μ', h1, h2⟩ := q; exact while_inv I h n μ' ρ' m' (by omega) h2
      | bk => exact q
      | rt d => exact q
    · rw [if_neg hc] at hr ⊢
      rw [OkS_ok]
      exact hr
variable {t : CT} {ok : Mem → Bool}
/-- for: an invariant by the items gone through -/
theorem for_inv (I : Nat → Env → Mem → Prop) (ds : List D) (hok : ∀ i ρ m, I i ρ m → ok m = true) (h : ∀ i d ρ m, ds[i]? = some d → I i ρ m → ∃ ρ1, assignT t d ρ = some ρ1 ∧ OkS (body ρ1 m) (onT (I (i + 1)) Q)) (hq : ∀ ρ m, I ds.length ρ m → Q .nx ρ m) :
    ∀ (es : List D) (i : Nat) (ρ : Env) (m : Mem), ds.drop i = es → i ≤ ds.length → I i ρ m → OkS (forL body t ok es ρ m) Q
  | [], i, ρ, m, he, hi, hI => by
    unfold forL
    rw [if_pos (hok i ρ m hI)]
    have : i = ds.length := by
      have := congrArg List.length he
      simp at this
      omega
    subst this
    rw [OkS_ok]
    exact hq ρ m hI
  | d :: es, i, ρ, m, he, hi, hI => by
    unfold forL
    rw [if_pos (hok i ρ m hI)]
    have hlt : i < ds.length := by
      have := congrArg List.length he
      simp at this
      omega
    rw [List.drop_eq_getElem_cons hlt] at he
    injection he with e1 e2
    obtain ⟨ρ1, ha, hb⟩ := h i d ρ m (by rw [List.getElem?_eq_getElem hlt, e1]) hI
    rw [ha]
    dsimp only
    rw [OkS_turn]
    refine hb.imp fun f ρ' m' q => ?_
    cases f with
    | nx => exact for_inv I ds hok h hq es (i + 1) ρ' m' e2 hlt q
    | ct => exact for_inv I ds hok h hq es (i + 1) ρ' m' e2 hlt q
    | bk => exact q
    | rt d => exact q
theorem for_ok (I : Nat → Env → Mem → Prop) {ds : List D} {ρ : Env} {m : Mem} (h0 : I 0 ρ m) (hok : ∀ i ρ m, I i ρ m → ok m = true) (h : ∀ i d ρ m, ds[i]? = some d → I i ρ m → ∃ ρ1, assignT t d ρ = some ρ1 ∧ OkS (body ρ1 m) (onT (I (i + 1)) Q)) (hq : ∀ ρ m, I ds.length ρ m → Q .nx ρ m) :
    OkS (forL body t ok ds ρ m) Q := for_inv I ds hok h hq ds 0 ρ m rfl (Nat.zero_le _) h0
end
section
variable {cond : Env → Mem → R (Bool × Mem)} {elt : Env → Mem → R (D × Mem)} {t : CT} {ok : Mem → Bool} {ρ : Env}
/-- a comprehension: an invariant by the items gone through and what is gathered -/
theorem lc_inv (I : Nat → List D → Mem → Prop) (ds : List D) (hok : ∀ i as m, I i as m → ok m = true)
    (h : ∀ i d as m, ds[i]? = some d → I i as m → ∃ ρ1, assignT t d ρ = some ρ1 ∧ Ok (cond ρ1 m) fun r => if r.1 = true then Ok (elt ρ1 r.2) fun y => I (i + 1) (as ++ [y.1]) y.2 else I (i + 1) as r.2) (Q : List D × Mem → Prop) :
    ∀ (es : List D) (i : Nat) (as : List D) (m : Mem), ds.drop i = es → i ≤ ds.length → I i as m → (∀ bs m, I ds.length (as ++ bs) m → Q (bs, m)) → Ok (lcL cond elt t ok ρ es m) Q
  | [], i, as, m, he, hi, hI, hq => by
    unfold lcL
    rw [if_pos (hok i as m hI)]
    have : i = ds.length := by
      have := congrArg List.length he
      simp at this
      omega
    subst this
    rw [Ok_ok]
    exact hq [] m (by rw [List.append_nil]; exact hI)
  | d :: es, i, as, m, he, hi, hI, hq => by
    unfold lcL
    rw [if_pos (hok i as m hI)]
    have hlt : i < ds.length := by
      have := congrArg List.length he
      simp at this
      omega
    rw [List.drop_eq_getElem_cons hlt] at he
    injection he with e1 e2
    obtain ⟨ρ1, ha, hb⟩ := h i d as m (by rw [List.getElem?_eq_getElem hlt, e1]) hI
    rw [ha]
    dsimp only
    rw [Ok_bind, Ok_nox]
    refine hb.imp fun r hr => ?_
    obtain ⟨b, m1⟩ := r
    cases b with
    | true =>
      dsimp only at hr ⊢
      rw [if_pos rfl] at hr
      rw [Ok_bind, Ok_nox]
      refine hr.imp fun y hy => ?_
      rw [Ok_bind]
      exact lc_inv I ds hok h (fun r3 => Ok (R.ok (y.1 :: r3.1, r3.2)) Q) es (i + 1) (as ++ [y.1]) y.2 e2 hlt hy fun bs m' hb' => by
        rw [Ok_ok]
        exact hq (y.1 :: bs) m' (by simpa using hb')
    | false =>
      dsimp only at hr ⊢
      rw [if_neg Bool.false_ne_true] at hr
      exact lc_inv I ds hok h Q es (i + 1) as m1 e2 hlt hr hq
theorem lc_ok (I : Nat → List D → Mem → Prop) {ds : List D} {m : Mem} {Q : List D × Mem → Prop} (h0 : I 0 [] m) (hok : ∀ i as m, I i as m → ok m = true)
    (h : ∀ i d as m, ds[i]? = some d → I i as m → ∃ ρ1, assignT t d ρ = some ρ1 ∧ Ok (cond ρ1 m) fun r => if r.1 = true then Ok (elt ρ1 r.2) fun y => I (i + 1) (as ++ [y.1]) y.2 else I (i + 1) as r.2)
    (hq : ∀ bs m, I ds.length bs m → Q (bs, m)) : Ok (lcL cond elt t ok ρ ds m) Q := lc_inv I ds hok h Q ds 0 [] m rfl (Nat.zero_le _) h0 fun bs m hb => hq bs m (by simpa using hb)
end
end Rf

/-! R15: what must hold for a computation to end well, part by part. -/
namespace Rf
open PySem L2
section
variable {P : Prg} {call : Nat → List D → Mem → R (D × Mem)} {ρ : Env} {m : Mem} {Q : D × Mem → Prop} {QB : Bool × Mem → Prop} {QS : Fl → Env → Mem → Prop} {QL : List D × Mem → Prop} {QW : Wk × Mem → Prop}
/-! ### expressions -/
theorem w_var {i : Nat} : Ok (semE P call (.var i) ρ m) Q = ∃ d, ρ[i]? = some (some d) ∧ Q (d, m) := by
  apply propext
  simp only [semE]
  constructor
  · intro h
    split at h
    · rw [Ok_ok] at h
      exact ⟨_, by assumption, h⟩
    · rw [Ok_bad] at h
      exact h.elim
  · rintro ⟨d, e, h⟩
    rw [e]
    dsimp only
    rw [Ok_ok]
    exact h
theorem w_const {d : D} : Ok (semE P call (.const d) ρ m) Q = Q (d, m) := Ok_def
theorem w_glob {i : Nat} : Ok (semE P call (.glob i) ρ m) Q = ∃ d, P.consts[i]? = some d ∧ Q (d, m) := by
  apply propext
  simp only [semE]
  constructor
  · intro h
    split at h
    · rw [Ok_ok] at h
      exact ⟨_, by assumption, h⟩
    · rw [Ok_bad] at h
      exact h.elim
  · rintro ⟨d, e, h⟩
    rw [e]
    dsimp only
    rw [Ok_ok]
    exact h
theorem w_op {p : Prim} {es : CEs} : Ok (semE P call (.op p es) ρ m) Q = Ok (semEs P call es ρ m) fun r => Ok (prim P call p r.1 r.2) Q := by
  simp only [semE, Ok_bind]
theorem w_nil : Ok (semEs P call .nil ρ m) QL = QL ([], m) := Ok_def
theorem w_cons {e : CE} {es : CEs} : Ok (semEs P call (.cons e es) ρ m) QL = Ok (semE P call e ρ m) fun r => Ok (semEs P call es ρ r.2) fun r2 => QL (r.1 :: r2.1, r2.2) := by
  simp only [semEs, Ok_bind, Ok_ok]
theorem w_tst {r : R (D × Mem)} : Ok (tst r) QB = Ok r fun x => ∃ b, truth x.2 x.1 = some b ∧ QB (b, x.2) := by
  unfold tst
  rw [Ok_bind]
  congr 1
  funext x
  cases h : truth x.2 x.1 with
  | none => simp [Ok_bad]
  | some b => simp [Ok_ok]
theorem w_and {a b : CE} : Ok (semE P call (.andE a b) ρ m) Q = Ok (semE P call a ρ m) fun r => ∃ k, truth r.2 r.1 = some k ∧ if k = true then Ok (semE P call b ρ r.2) Q else Q r := by
  simp only [semE, Ok_bind]
  congr 1
  funext x
  cases h : truth x.2 x.1 with
  | none => simp [Ok_bad]
  | some k => cases k <;> simp [Ok_ok]
theorem w_or {a b : CE} : Ok (semE P call (.orE a b) ρ m) Q = Ok (semE P call a ρ m) fun r => ∃ k, truth r.2 r.1 = some k ∧ if k = true then Q r else Ok (semE P call b ρ r.2) Q := by
  simp only [semE, Ok_bind]
  congr 1
  funext x
  cases h : truth x.2 x.1 with
  | none => simp [Ok_bad]
  | some k => cases k <;> simp [Ok_ok]
theorem w_ife {t a b : CE} : Ok (semE P call (.ife t a b) ρ m) Q = Ok (semE P call t ρ m) fun r => ∃ k, truth r.2 r.1 = some k ∧ if k = true then Ok (semE P call a ρ r.2) Q else Ok (semE P call b ρ r.2) Q := by
  simp only [semE, Ok_bind, w_tst, Ok_if]
theorem w_chain {p q : Prim} {a b d : CE} : Ok (semE P call (.chain p q a b d) ρ m) Q = Ok (semE P call a ρ m) fun r => Ok (semE P call b ρ r.2) fun r2 => Ok (prim P call p [r.1, r2.1] r2.2) fun r3 => ∃ k, r3.1 = .bl k ∧ if k = true then Ok (semE P call d ρ r3.2) fun r4 => Ok (prim P call q [r2.1, r4.1] r4.2) Q else Q (.bl false, r3.2) := by
  simp only [semE, Ok_bind]
  congr 1; funext r
  congr 1; funext r2
  congr 1; funext r3
  obtain ⟨d3, m3⟩ := r3
  cases d3 with
  | bl k => cases k <;> simp [Ok_ok, Ok_bind]
  | _ => simp [Ok_bad]
theorem w_slc {fz : Bool} {a b d : CE} : Ok (semE P call (.slc fz a b d) ρ m) Q = Ok (semE P call a ρ m) fun r => Ok (semE P call b ρ r.2) fun r2 => ∃ i, r2.1 = .int i ∧ Ok (semE P call d ρ r2.2) fun r3 => ∃ j, r3.1 = .int j ∧ Ok (sliceOf fz r.1 (some i) (some j) r3.2) Q := by
  simp only [semE, Ok_bind, partR]
  congr 1; funext r
  congr 1; funext r2
  obtain ⟨d2, m2⟩ := r2
  cases d2 with
  | int i =>
    simp only [Ok_ok, Ok_bind, D.int.injEq, exists_eq_left']
    congr 1; funext r3
    obtain ⟨d3, m3⟩ := r3
    cases d3 with
    | int j => simp [Ok_ok]
    | _ => simp [Ok_bad]
  | _ => simp [Ok_bad]
theorem w_lc {fz : Bool} {own : List Nat} {t : CT} {it : CI} {ifs : CEs} {e : CE} : Ok (semE P call (.lc fz own t it ifs e) ρ m) Q = Ok (semI P call it ρ m) fun r => r.1.items.length ≤ LIM ∧ Ok (lcL (fun ρ' m' => semIfs P call ifs ρ' m') (fun ρ' m' => semE P call e ρ' m') t r.1.ok (wipeE ρ own) r.1.items r.2) fun r2 => Ok (mkL fz r2.1 r2.2) Q := by
  simp only [semE, Ok_bind, Ok_ifb]
theorem recv1 {d : D} {m : Mem} (h : recvK d m = 1) : selfC m d = none := by
  cases d with
  | ins _ _ => simp [recvK] at h
  | ref i =>
    simp only [recvK] at h
    simp only [selfC]
    split at h <;> rename_i hm <;> first | (simp at h; done) | (rw [hm])
  | _ => rfl
theorem recv2 {d : D} {m : Mem} (h : recvK d m = 2) : ∃ c, selfC m d = some c := by
  cases d with
  | ins c _ => exact ⟨c, rfl⟩
  | ref i =>
    simp only [recvK] at h
    simp only [selfC]
    split at h <;> rename_i hm <;> first | (simp at h; done) | (rw [hm]; exact ⟨_, rfl⟩)
  | _ => simp [recvK] at h
theorem w_meth {name : Str} {o : CE} {es : CEs} : Ok (semE P call (.meth 1 name o es) ρ m) Q = Ok (semE P call o ρ m) fun r => recvK r.1 r.2 = 1 ∧ Ok (semEs P call es ρ r.2) fun r2 => Ok (prim P call (.meth name) (r.1 :: r2.1) r2.2) Q := by
  simp only [semE, Ok_bind, Ok_ifb]
  congr 1
  funext r
  by_cases h : recvK r.1 r.2 = 1
  · rw [recv1 h]
    simp only [Ok_bind]
  · simp only [h, false_and]
theorem w_meth2 {name : Str} {o : CE} {es : CEs} : Ok (semE P call (.meth 2 name o es) ρ m) Q = Ok (semE P call o ρ m) fun r => recvK r.1 r.2 = 2 ∧ ∃ c f, selfC r.2 r.1 = some c ∧ ((P.cls[c]?).bind fun cl => cl.meths.lookup name) = some f ∧ Ok (semEs P call es ρ r.2) fun r2 => Ok (call f (r.1 :: r2.1) r2.2) Q := by
  simp only [semE, Ok_bind, Ok_ifb]
  congr 1
  funext r
  by_cases h : recvK r.1 r.2 = 2
  · obtain ⟨c, hc⟩ := recv2 h
    simp only [hc, Option.some.injEq, exists_and_left, exists_eq_left']
    cases hf : (P.cls[c]?).bind fun cl => cl.meths.lookup name with
    | none => simp [Ok_bad]
    | some f => simp [Ok_bind]
  · simp only [h, false_and]
theorem w_ifs0 : Ok (semIfs P call .nil ρ m) QB = QB (true, m) := Ok_def
theorem w_ifs1 {e : CE} {es : CEs} : Ok (semIfs P call (.cons e es) ρ m) QB = Ok (semE P call e ρ m) fun x => ∃ b, truth x.2 x.1 = some b ∧ QB (b, x.2) := by
  simp only [semIfs, w_tst]
/-! ### walks -/
theorem w_over {e : CE} : Ok (semI P call (.over e) ρ m) QW = Ok (semE P call e ρ m) fun r => ∃ xs, itemsOf r.2 r.1 = some xs ∧ QW (⟨xs, stands r.1 xs⟩, r.2) := by
  simp only [semI, Ok_bind, wkOver]
  congr 1; funext r
  cases h : itemsOf r.2 r.1 with
  | none => simp [Ok_bad]
  | some xs => simp [Ok_ok]
theorem w_range1 {e : CE} : Ok (semI P call (.range (.cons e .nil)) ρ m) QW = Ok (semE P call e ρ m) fun r => ∃ j, r.1 = .int j ∧ small62 j = true ∧ QW (⟨rangeD 0 j.toNat, fun _ => true⟩, r.2) := by
  simp only [semI, semEs, Ok_bind, Ok_ok, wkRange]
  congr 1; funext r
  obtain ⟨d, m1⟩ := r
  cases d with
  | int j =>
    simp only [D.int.injEq, exists_eq_left']
    by_cases h : small62 j = true
    · simp [h, Ok_ok]
    · simp [h, Ok_bad]
  | _ => simp [Ok_bad]
theorem w_range2 {e f : CE} : Ok (semI P call (.range (.cons e (.cons f .nil))) ρ m) QW = Ok (semE P call e ρ m) fun r => Ok (semE P call f ρ r.2) fun r2 => ∃ i j, r.1 = .int i ∧ r2.1 = .int j ∧ (small62 i = true ∧ small62 j = true) ∧ QW (⟨rangeD i (j - i).toNat, fun _ => true⟩, r2.2) := by
  simp only [semI, semEs, Ok_bind, Ok_ok, wkRange]
  congr 1; funext r
  congr 1; funext r2
  obtain ⟨d, m1⟩ := r
  obtain ⟨d2, m2⟩ := r2
  cases d with
  | int i =>
    cases d2 with
    | int j =>
      by_cases h : (small62 i && small62 j) = true
      · have h' := Bool.and_eq_true_iff.mp h
        simp [h', Ok_ok]
      · simp only [h]
        have h' : ¬ (small62 i = true ∧ small62 j = true) := fun z => h (Bool.and_eq_true_iff.mpr z)
        simp [h', Ok_bad]
    | _ => simp [Ok_bad]
  | _ => simp [Ok_bad]
theorem w_enum {e : CE} : Ok (semI P call (.enum e) ρ m) QW = Ok (semE P call e ρ m) fun r => ∃ xs, itemsOf r.2 r.1 = some xs ∧ QW (⟨enumD 0 xs, stands r.1 xs⟩, r.2) := by
  simp only [semI, Ok_bind, wkOver]
  congr 1; funext r
  cases h : itemsOf r.2 r.1 with
  | none => simp [Ok_bad]
  | some xs => simp [Ok_ok]
theorem w_zip {e f : CE} : Ok (semI P call (.zip e f) ρ m) QW = Ok (semE P call e ρ m) fun r => Ok (semE P call f ρ r.2) fun r2 => isT r.1 = isT r2.1 ∧ ∃ xs, itemsOf r2.2 r.1 = some xs ∧ ∃ ys, itemsOf r2.2 r2.1 = some ys ∧ QW (⟨zipD xs ys, fun m => stands r.1 xs m && stands r2.1 ys m⟩, r2.2) := by
  simp only [semI, Ok_bind, wkOver]
  congr 1; funext r
  congr 1; funext r2
  by_cases h : isT r.1 = isT r2.1
  · simp only [h, bne_self_eq_false, Bool.false_eq_true, if_false, true_and]
    cases h1 : itemsOf r2.2 r.1 with
    | none => simp [Ok_bad]
    | some xs =>
      cases h2 : itemsOf r2.2 r2.1 with
      | none => simp [Ok_bad]
      | some ys => simp [Ok_ok]
  · have : (isT r.1 != isT r2.1) = true := by simpa using h
    simp [this, h, Ok_bad]
/-! ### statements -/
theorem w_expr {e : CE} : OkS (semS P call (.expr e) ρ m) QS = Ok (semE P call e ρ m) fun r => QS .nx ρ r.2 := by
  simp only [semS, OkS_lift, OkS_ok]
theorem w_assign {t : CT} {e : CE} : OkS (semS P call (.assign t e) ρ m) QS = Ok (semE P call e ρ m) fun r => ∃ ρ', assignT t r.1 ρ = some ρ' ∧ QS .nx ρ' r.2 := by
  simp only [semS, OkS_lift]
  congr 1; funext r
  cases h : assignT t r.1 ρ with
  | none => simp [OkS_bad]
  | some ρ' => simp [OkS_ok]
theorem w_par {is : List Nat} {es : CEs} : OkS (semS P call (.par is es) ρ m) QS = Ok (semEs P call es ρ m) fun r => ∃ ρ', setAll is r.1 ρ = some ρ' ∧ QS .nx ρ' r.2 := by
  simp only [semS, OkS_lift]
  congr 1; funext r
  cases h : setAll is r.1 ρ with
  | none => simp [OkS_bad]
  | some ρ' => simp [OkS_ok]
theorem w_aug {i : Nat} {p : Prim} {e : CE} : OkS (semS P call (.aug i p e) ρ m) QS = ∃ d, ρ[i]? = some (some d) ∧ Ok (semE P call e ρ m) fun r => Ok (augOf p d r.1 r.2) fun r2 => QS .nx (ρ.set i (some r2.1)) r2.2 := by
  apply propext
  simp only [semS]
  constructor
  · intro h
    split at h
    · simp only [OkS_lift, Ok_bind, OkS_ok] at h
      exact ⟨_, by assumption, h⟩
    · rw [OkS_bad] at h
      exact h.elim
  · rintro ⟨d, e1, h⟩
    rw [e1]
    simp only [OkS_lift, Ok_bind, OkS_ok]
    exact h
theorem w_setIx {o i e : CE} : OkS (semS P call (.setIx o i e) ρ m) QS = Ok (semE P call e ρ m) fun r => Ok (semE P call o ρ r.2) fun r2 => Ok (semE P call i ρ r2.2) fun r3 => ∃ m', setIxOf r2.1 r3.1 r.1 r3.2 = some m' ∧ QS .nx ρ m' := by
  simp only [semS, OkS_lift, Ok_bind, OkS_ok]
  congr 1; funext r
  congr 1; funext r2
  congr 1; funext r3
  cases h : setIxOf r2.1 r3.1 r.1 r3.2 with
  | none => simp [Ok_bad]
  | some m' => simp [Ok_ok]
theorem w_retE {e : CE} : OkS (semS P call (.ret e) ρ m) QS = Ok (semE P call e ρ m) fun r => QS (.rt r.1) ρ r.2 := by
  simp only [semS, OkS_lift, OkS_ok]
theorem w_retN : OkS (semS P call .retN ρ m) QS = QS (.rt .non) ρ m := OkS_def
theorem w_if {t : CE} {a b : CSs} : OkS (semS P call (.ifs t a b) ρ m) QS = Ok (semE P call t ρ m) fun r => ∃ k, truth r.2 r.1 = some k ∧ if k = true then OkS (semSs P call a ρ r.2) QS else OkS (semSs P call b ρ r.2) QS := by
  simp only [semS, OkS_lift, w_tst, OkS_if]
theorem w_while {t : CE} {b : CSs} : OkS (semS P call (.whil t b) ρ m) QS = OkS (whileN (fun ρ m => tst (semE P call t ρ m)) (fun ρ m => semSs P call b ρ m) fuelW ρ m) QS := by
  simp only [semS]
theorem w_for {t : CT} {it : CI} {b : CSs} : OkS (semS P call (.fors t it b) ρ m) QS = Ok (semI P call it ρ m) fun r => OkS (forL (fun ρ m => semSs P call b ρ m) t r.1.ok r.1.items ρ r.2) QS := by
  simp only [semS, OkS_lift]
theorem w_pass : OkS (semS P call .pass ρ m) QS = QS .nx ρ m := OkS_def
theorem w_brk : OkS (semS P call .brk ρ m) QS = QS .bk ρ m := OkS_def
theorem w_cont : OkS (semS P call .cont ρ m) QS = QS .ct ρ m := OkS_def
theorem w_bad : OkS (semS P call .bad ρ m) QS = False := OkS_def
theorem w_snil : OkS (semSs P call .nil ρ m) QS = QS .nx ρ m := OkS_def
theorem w_scons {s : CS} {ss : CSs} : OkS (semSs P call (.cons s ss) ρ m) QS = OkS (semS P call s ρ m) (onN (fun ρ m => OkS (semSs P call ss ρ m) QS) QS) := by
  simp only [semSs, OkS_then]
/-! ### operations -/
theorem p_call {f : Nat} {ds : List D} : prim P call (.call f) ds m = call f ds m := Eq.trans rfl rfl
theorem p_tup {ds : List D} : Ok (prim P call .tup ds m) Q = (ds.length ≤ LIM ∧ Q (.tup ds, m)) := by
  show Ok (mkT ds m) Q = _
  unfold mkT
  rw [Ok_ifb, Ok_ok]
theorem p_mkT {ds : List D} : Ok (mkT ds m) Q = (ds.length ≤ LIM ∧ Q (.tup ds, m)) := by
  unfold mkT
  rw [Ok_ifb, Ok_ok]
theorem p_mkLt {ds : List D} : Ok (mkL true ds m) Q = (ds.length ≤ LIM ∧ Q (.lst ds, m)) := by
  unfold mkL
  rw [Ok_ifb, Ok_if]
  simp [Ok_ok]
theorem p_mkLf {ds : List D} : Ok (mkL false ds m) Q = (ds.length ≤ LIM ∧ Q (.ref m.length, m ++ [.lst ds])) := by
  unfold mkL
  rw [Ok_ifb, Ok_if]
  simp [Ok_ok]
theorem p_lst {fz : Bool} {ds : List D} : prim P call (.lst fz) ds m = mkL fz ds m := Eq.trans rfl rfl
theorem p_addI {fz : Bool} {i j : Int} : prim P call (.add fz) [.int i, .int j] m = .ok (.int (i + j), m) := Eq.trans rfl rfl
theorem p_addT {fz : Bool} {xs ys : List D} : prim P call (.add fz) [.tup xs, .tup ys] m = mkT (xs ++ ys) m := Eq.trans rfl rfl
theorem p_addS {fz : Bool} {x y : Str} : Ok (prim P call (.add fz) [.str x, .str y] m) Q = (x.length + y.length ≤ LIM ∧ Q (.str (x ++ y), m)) := by
  show Ok (if x.length + y.length ≤ LIM then .ok (.str (x ++ y), m) else .bad) Q = _
  rw [Ok_ifb, Ok_ok]
theorem p_addL {fz : Bool} {xs ys : List D} : prim P call (.add fz) [.lst xs, .lst ys] m = mkL fz (xs ++ ys) m := Eq.trans rfl rfl
theorem p_sub {i j : Int} : prim P call .sub [.int i, .int j] m = .ok (.int (i - j), m) := Eq.trans rfl rfl
theorem p_mul {fz : Bool} {i j : Int} : Ok (prim P call (.mul fz) [.int i, .int j] m) Q = (mulB i j = true ∧ Q (.int (i * j), m)) := by
  show Ok (if mulB i j then .ok (.int (i * j), m) else .bad) Q = _
  rw [Ok_ifb, Ok_ok]
theorem p_fdiv {i j : Int} : Ok (prim P call .fdiv [.int i, .int j] m) Q = ((0 < j ∧ Sm j = true) ∧ Q (.int (i / j), m)) := by
  show Ok (if 0 < j ∧ Sm j = true then .ok (.int (i / j), m) else .bad) Q = _
  rw [Ok_ifb, Ok_ok]
theorem p_mod {i j : Int} : Ok (prim P call .mod [.int i, .int j] m) Q = (0 < j ∧ Q (.int (i % j), m)) := by
  show Ok (if 0 < j then .ok (.int (i % j), m) else .bad) Q = _
  rw [Ok_ifb, Ok_ok]
theorem p_pow {i j : Int} : Ok (prim P call .pow [.int i, .int j] m) Q = ((0 ≤ j ∧ j ≤ 1000 ∧ i.natAbs < 2 ^ 256) ∧ Q (.int (i ^ j.toNat), m)) := by
  show Ok (if 0 ≤ j ∧ j ≤ 1000 ∧ i.natAbs < 2 ^ 256 then .ok (.int (i ^ j.toNat), m) else .bad) Q = _
  rw [Ok_ifb, Ok_ok]
theorem p_neg {i : Int} : prim P call .neg [.int i] m = .ok (.int (-i), m) := Eq.trans rfl rfl
theorem p_not {d : D} : Ok (prim P call .not [d] m) Q = ∃ b, truth m d = some b ∧ Q (.bl (!b), m) := by
  show Ok (match truth m d with | some b => .ok (.bl (!b), m) | none => .bad) Q = _
  cases h : truth m d with
  | none => simp [Ok_bad]
  | some b => simp [Ok_ok]
theorem p_lt {i j : Int} : prim P call .lt [.int i, .int j] m = .ok (.bl (decide (i < j)), m) := Eq.trans rfl rfl
theorem p_le {i j : Int} : prim P call .le [.int i, .int j] m = .ok (.bl (decide (i ≤ j)), m) := Eq.trans rfl rfl
theorem p_gt {i j : Int} : prim P call .gt [.int i, .int j] m = .ok (.bl (decide (j < i)), m) := Eq.trans rfl rfl
theorem p_ge {i j : Int} : prim P call .ge [.int i, .int j] m = .ok (.bl (decide (j ≤ i)), m) := Eq.trans rfl rfl
theorem p_isN {d : D} : prim P call .is_ [d, .non] m = .ok (.bl (decide (d = .non)), m) := by cases d <;> rfl
theorem p_isnotN {d : D} : prim P call .isnot [d, .non] m = .ok (.bl (!decide (d = .non)), m) := by cases d <;> rfl
theorem p_isB {a b : Bool} : prim P call .is_ [.bl a, .bl b] m = .ok (.bl (decide (a = b)), m) := Eq.trans rfl rfl
theorem p_isnotB {a b : Bool} : prim P call .isnot [.bl a, .bl b] m = .ok (.bl (!decide (a = b)), m) := Eq.trans rfl rfl
theorem p_eqI {i j : Int} : prim P call .eq [.int i, .int j] m = .ok (.bl (decide (i = j)), m) := by
  have h : (i == j) = decide (i = j) := rfl
  rfl
theorem p_neI {i j : Int} : prim P call .ne [.int i, .int j] m = .ok (.bl (!decide (i = j)), m) := Eq.trans rfl rfl
theorem p_eqB {i j : Bool} : prim P call .eq [.bl i, .bl j] m = .ok (.bl (i == j), m) := Eq.trans rfl rfl
theorem p_neB {i j : Bool} : prim P call .ne [.bl i, .bl j] m = .ok (.bl (!(i == j)), m) := Eq.trans rfl rfl
theorem p_len {xs : List D} : prim P call .len [.tup xs] m = .ok (.int xs.length, m) := Eq.trans rfl rfl
theorem p_lenL {xs : List D} : prim P call .len [.lst xs] m = .ok (.int xs.length, m) := Eq.trans rfl rfl
theorem p_lenC {xs : List Int} : prim P call .len [.scr xs] m = .ok (.int xs.length, m) := Eq.trans rfl rfl
theorem p_ixC {xs : List Int} {i : Int} : Ok (prim P call .ix [.scr xs, .int i] m) Q = ∃ x, atI xs i = some x ∧ Q (.int x, m) := by
  show Ok (match atI xs i with | some x => .ok (.int x, m) | none => .bad) Q = _
  cases atI xs i <;> simp [Ok_ok, Ok_bad]
theorem p_ixT {xs : List D} {i : Int} : Ok (prim P call .ix [.tup xs, .int i] m) Q = ∃ x, atI xs i = some x ∧ Q (x, m) := by
  show Ok (match atI xs i with | some x => .ok (x, m) | none => .bad) Q = _
  cases atI xs i <;> simp [Ok_ok, Ok_bad]
theorem p_ixL {xs : List D} {i : Int} : Ok (prim P call .ix [.lst xs, .int i] m) Q = ∃ x, atI xs i = some x ∧ Q (x, m) := by
  show Ok (match atI xs i with | some x => .ok (x, m) | none => .bad) Q = _
  cases atI xs i <;> simp [Ok_ok, Ok_bad]
theorem p_ixR {n : Nat} {i : Int} : Ok (prim P call .ix [.ref n, .int i] m) Q = ∃ xs, m[n]? = some (.lst xs) ∧ ∃ x, atI xs i = some x ∧ Q (x, m) := by
  show Ok (match (itemsOf m (.ref n)).bind fun xs => atI xs i with | some x => .ok (x, m) | none => .bad) Q = _
  simp only [itemsOf, lstOf]
  cases h : m[n]? with
  | none => simp [Ok_bad]
  | some c =>
    cases c with
    | lst xs =>
      simp only [Option.bind_some, Option.some.injEq, Cell.lst.injEq, exists_eq_left']
      cases atI xs i <;> simp [Ok_ok, Ok_bad]
    | _ => simp [Ok_bad]
theorem p_max2 {i j : Int} : prim P call .max2 [.int i, .int j] m = .ok (.int (if j > i then j else i), m) := Eq.trans rfl rfl
theorem p_min2 {i j : Int} : prim P call .min2 [.int i, .int j] m = .ok (.int (if j < i then j else i), m) := Eq.trans rfl rfl
theorem p_abs {i : Int} : prim P call .abs [.int i] m = .ok (.int (if i < 0 then -i else i), m) := Eq.trans rfl rfl
theorem p_intI {i : Int} : prim P call .int [.int i] m = .ok (.int i, m) := Eq.trans rfl rfl
theorem p_intB {b : Bool} : prim P call .int [.bl b] m = .ok (.int (if b then 1 else 0), m) := Eq.trans rfl rfl
theorem p_tupOf {d : D} : Ok (prim P call .tupOf [d] m) Q = ∃ xs, itemsOf m d = some xs ∧ Q (.tup xs, m) := by
  show Ok (match itemsOf m d with | some xs => .ok (.tup xs, m) | none => .bad) Q = _
  cases itemsOf m d <;> simp [Ok_ok, Ok_bad]
theorem p_listOf {fz : Bool} {d : D} : Ok (prim P call (.listOf fz) [d] m) Q = ∃ xs, itemsOf m d = some xs ∧ Ok (mkL fz xs m) Q := by
  show Ok (match itemsOf m d with | some xs => mkL fz xs m | none => .bad) Q = _
  cases itemsOf m d <;> simp [Ok_ok, Ok_bad]
theorem intsD_map : ∀ ns : List Int, intsD (ns.map .int) = some ns
  | [] => rfl
  | n :: ns => by simp [intsD, intsD_map ns]
theorem boolsD_map : ∀ ns : List Bool, boolsD (ns.map .bl) = some ns
  | [] => rfl
  | n :: ns => by simp [boolsD, boolsD_map ns]
theorem p_sum {d : D} : Ok (prim P call .sum [d] m) Q = ∃ ns, (itemsOf m d).bind intsD = some ns ∧ Q (.int ns.sum, m) := by
  show Ok (match (itemsOf m d).bind intsD with | some ns => .ok (.int ns.sum, m) | none => .bad) Q = _
  cases (itemsOf m d).bind intsD <;> simp [Ok_ok, Ok_bad]
theorem p_all {d : D} : Ok (prim P call .all [d] m) Q = ∃ bs, (lstOf m d).bind boolsD = some bs ∧ Q (.bl (bs.all id), m) := by
  show Ok (match (lstOf m d).bind boolsD with | some bs => .ok (.bl (bs.all id), m) | none => .bad) Q = _
  cases (lstOf m d).bind boolsD <;> simp [Ok_ok, Ok_bad]
theorem p_any {d : D} : Ok (prim P call .any [d] m) Q = ∃ bs, (lstOf m d).bind boolsD = some bs ∧ Q (.bl (bs.any id), m) := by
  show Ok (match (lstOf m d).bind boolsD with | some bs => .ok (.bl (bs.any id), m) | none => .bad) Q = _
  cases (lstOf m d).bind boolsD <;> simp [Ok_ok, Ok_bad]
theorem p_isI {t : String} {d : D} (h : selfC m d = none) : Ok (prim P call (.isI t) [d] m) Q = ∃ b, isIOf t d m = some b ∧ Q (.bl b, m) := by
  simp only [prim, h]
  cases isIOf t d m <;> simp [Ok_ok, Ok_bad]
theorem p_isIC {t : String} {d : D} {c : Nat} (h : selfC m d = some c) : Ok (prim P call (.isI t) [d] m) Q = ((P.cls[c]?).isSome = true ∧ Q (.bl false, m)) := by
  simp only [prim, h, Ok_ifb, Ok_ok]
theorem p_isC {c : Nat} {d : D} : Ok (prim P call (.isC c) [d] m) Q = (known P m d = true ∧ Q (.bl (decide (selfC m d = some c)), m)) := by
  simp only [prim, Ok_ifb, Ok_ok]
theorem s_int {i : Int} : selfC m (.int i) = none := Eq.trans rfl rfl
theorem s_bl {i : Bool} : selfC m (.bl i) = none := Eq.trans rfl rfl
theorem s_tup {i : List D} : selfC m (.tup i) = none := Eq.trans rfl rfl
theorem s_lst {i : List D} : selfC m (.lst i) = none := Eq.trans rfl rfl
theorem s_str {i : Str} : selfC m (.str i) = none := Eq.trans rfl rfl
theorem s_non : selfC m .non = none := Eq.trans rfl rfl
theorem s_ins {c : Nat} {i : List D} : selfC m (.ins c i) = some c := Eq.trans rfl rfl
theorem p_in {a b : D} : Ok (prim P call .in_ [a, b] m) Q = ∃ xs, itemsOf m b = some xs ∧ (flatD a && xs.all flatD) = true ∧ Q (.bl (xs.any fun y => eqF y a), m) := by
  show Ok (inOf false a b m) Q = _
  unfold inOf
  cases h : itemsOf m b with
  | none => simp [Ok_bad]
  | some xs =>
    dsimp only
    rw [Ok_ifb, Ok_ok]
    simp only [Option.some.injEq, exists_eq_left']
    rfl
theorem p_notin {a b : D} : Ok (prim P call .notin [a, b] m) Q = ∃ xs, itemsOf m b = some xs ∧ (flatD a && xs.all flatD) = true ∧ Q (.bl (!xs.any fun y => eqF y a), m) := by
  show Ok (inOf true a b m) Q = _
  unfold inOf
  cases h : itemsOf m b with
  | none => simp [Ok_bad]
  | some xs =>
    dsimp only
    rw [Ok_ifb, Ok_ok]
    simp only [Option.some.injEq, exists_eq_left']
    rfl
theorem p_append (hc : P.cls = []) {n : Nat} {d : D} : Ok (prim P call (.meth "append") [.ref n, d] m) Q = ∃ xs, m[n]? = some (.lst xs) ∧ xs.length < LIM ∧ Q (.non, m.set n (.lst (xs ++ [d]))) := by
  cases e : m[n]? with
  | none => simp [prim, e, Ok_bad]
  | some c =>
    cases c with
    | lst xs =>
      simp only [prim, e, true_and, Option.some.injEq, Cell.lst.injEq, exists_eq_left']
      rw [Ok_ifb, Ok_ok]
    | obj c fs => simp [prim, e, methOf, hc, Ok_bad]
    | _ => simp [prim, e, Ok_bad]
end
/-! ### truth, items -/
theorem t_bl {m : Mem} {b : Bool} : truth m (.bl b) = some b := Eq.trans rfl rfl
theorem t_int {m : Mem} {i : Int} : truth m (.int i) = some (i != 0) := Eq.trans rfl rfl
theorem t_non {m : Mem} : truth m .non = some false := Eq.trans rfl rfl
theorem t_tup {m : Mem} {xs : List D} : truth m (.tup xs) = some (!xs.isEmpty) := Eq.trans rfl rfl
theorem t_lst {m : Mem} {xs : List D} : truth m (.lst xs) = some (!xs.isEmpty) := Eq.trans rfl rfl
theorem i_tup {m : Mem} {xs : List D} : itemsOf m (.tup xs) = some xs := Eq.trans rfl rfl
theorem i_lst {m : Mem} {xs : List D} : itemsOf m (.lst xs) = some xs := Eq.trans rfl rfl
theorem l_lst {m : Mem} {xs : List D} : lstOf m (.lst xs) = some xs := Eq.trans rfl rfl
theorem ii_int {m : Mem} {t : String} {i : Int} : isIOf t (.int i) m = some (decide (t = "int")) := Eq.trans rfl rfl
theorem ii_bl {m : Mem} {t : String} {i : Bool} : isIOf t (.bl i) m = some (decide (t = "bool") || decide (t = "int")) := Eq.trans rfl rfl
theorem ii_tup {m : Mem} {t : String} {xs : List D} : isIOf t (.tup xs) m = some (decide (t = "tuple")) := Eq.trans rfl rfl
theorem ii_lst {m : Mem} {t : String} {xs : List D} : isIOf t (.lst xs) m = some (decide (t = "list")) := Eq.trans rfl rfl
theorem ii_str {m : Mem} {t : String} {x : Str} : isIOf t (.str x) m = some (decide (t = "str")) := Eq.trans rfl rfl
theorem ii_non {m : Mem} {t : String} : isIOf t .non m = some (decide (t = "NoneType")) := Eq.trans rfl rfl
theorem a_name {i : Nat} {d : D} {ρ : Env} : assignT (.name i) d ρ = some (ρ.set i (some d)) := Eq.trans rfl rfl
theorem a_tup {ts : List CT} {ds : List D} {ρ : Env} : assignT (.tup ts) (.tup ds) ρ = assignTs ts ds ρ := Eq.trans rfl rfl
theorem a_nil {ρ : Env} : assignTs [] [] ρ = some ρ := Eq.trans rfl rfl
theorem a_cons {t : CT} {ts : List CT} {d : D} {ds : List D} {ρ : Env} : assignTs (t :: ts) (d :: ds) ρ = (assignT t d ρ).bind fun ρ' => assignTs ts ds ρ' := Eq.trans rfl rfl
theorem sa_nil {ρ : Env} : setAll [] [] ρ = some ρ := Eq.trans rfl rfl
theorem sa_cons {i : Nat} {is : List Nat} {d : D} {ds : List D} {ρ : Env} : setAll (i :: is) (d :: ds) ρ = setAll is ds (ρ.set i (some d)) := Eq.trans rfl rfl
theorem m_lim {n : Nat} (h : n ≤ 16777216) : n ≤ LIM := h
theorem Sm_of {i : Int} (h : i.natAbs < 10 ^ 900) : Sm i = true := by
  unfold Sm
  refine decide_eq_true (Nat.lt_of_lt_of_le h ?_)
  unfold BIG
  exact Nat.pow_le_pow_right (by decide) (by decide)
theorem mul64 {i j : Int} (h : -(2 ^ 64) < i ∧ i < 2 ^ 64 ∨ -(2 ^ 64) < j ∧ j < 2 ^ 64) : mulB i j = true := by
  simp only [mulB, s64, Bool.or_eq_true, Bool.and_eq_true, decide_eq_true_eq]
  exact .inl h
theorem mulS {i j : Int} (h : Sm i = true) (h' : Sm j = true) : mulB i j = true := by
  unfold mulB
  simp [h, h']
theorem at_nn {α : Type} {xs : List α} {i : Nat} : atI xs (i : Int) = xs[i]? := by
  unfold atI ixN
  rw [if_pos (by omega)]
  by_cases h : i < xs.length
  · rw [if_pos (by omega)]; simp
  · rw [if_neg (by omega)]
    simp [List.getElem?_eq_none (Nat.not_lt.mp h)]
theorem at_last {α : Type} {xs : List α} {x : α} : atI (xs ++ [x]) (-1) = some x := by
  unfold atI ixN
  rw [if_neg (by omega), if_pos (by simp; omega)]
  have : ((-1 : Int) + ((xs ++ [x]).length : Int)).toNat = xs.length := by simp; omega
  simp only [Option.bind_some]
  rw [this]
  simp
theorem i_at0 {α : Type} {x : α} {xs : List α} : atI (x :: xs) 0 = some x := by
  have := at_nn (xs := x :: xs) (i := 0)
  simpa using this
theorem i_at1 {α : Type} {x y : α} {xs : List α} : atI (x :: y :: xs) 1 = some y := by
  have := at_nn (xs := x :: y :: xs) (i := 1)
  simpa using this
theorem i_at2 {α : Type} {x y z : α} {xs : List α} : atI (x :: y :: z :: xs) 2 = some z := by
  have := at_nn (xs := x :: y :: z :: xs) (i := 2)
  simpa using this
/-! ### a row of three whole numbers that draws -/
def dc (a b c : Int) : Cell := .lst [.int a, .int b, .int c]
theorem i_setR {n : Nat} {k : Int} {d : D} {m : Mem} : setIxOf (.ref n) (.int k) d m = (m[n]?).bind fun c => match c with | .lst xs => (ixN xs.length k).map fun j => m.set n (.lst (xs.set j d)) | _ => none := by
  simp only [setIxOf]
  cases h : m[n]? with
  | none => rfl
  | some c => cases c <;> rfl
theorem i_ix30 {x y z : D} : ixN [x, y, z].length 0 = some 0 := Eq.trans rfl rfl
theorem i_ix31 {x y z : D} : ixN [x, y, z].length 1 = some 1 := Eq.trans rfl rfl
theorem i_ix32 {x y z : D} : ixN [x, y, z].length 2 = some 2 := Eq.trans rfl rfl
theorem oldOk_set (n : Nat) {c : Cell} (h : c.low n = true) : ∀ (m : Mem) (i : Nat), oldOk n m (m.set i c) = true
  | [], _ => rfl
  | x :: m, 0 => by simp [oldOk, h, oldOk_self]
  | x :: m, i + 1 => by simp [oldOk, oldOk_set n h m i]
theorem low_dc {n : Nat} {a b c : Int} : (dc a b c).low n = true := Eq.trans rfl rfl
theorem cut_dc {m : Mem} {n : Nat} {a b c : Int} {d : D} (h : d.low m.length = true) : cut m d (m.set n (dc a b c)) = (d, m.set n (dc a b c)) := by
  rw [cut_low (oldOk_set _ low_dc m n) h, List.take_of_length_le (by simp)]
theorem cut_app {m l : Mem} {d : D} (h : d.low m.length = true) : cut m d (m ++ l) = (d, m) := by
  rw [cut_low (oldOk_app _ m l) h, List.take_left]
theorem cut_new {m : Mem} {c : Cell} : cut m (.ref m.length) (m ++ [c]) = (.ref m.length, m ++ [c]) := by
  unfold cut
  rw [if_pos (oldOk_app _ m [c])]
  have : D.low m.length (.ref m.length) = false := by simp [D.low]
  rw [this, if_neg Bool.false_ne_true]
  have e : (m ++ [c])[m.length]? = some c := by simp
  dsimp only
  rw [e, List.take_left]
  dsimp only
  split <;> rfl
theorem at_set {m : Mem} {n : Nat} {c : Cell} (h : m[n]? = some c) (c' : Cell) : (m.set n c')[n]? = some c' := List.getElem?_set_self (List.getElem?_eq_some_iff.mp h).1
theorem at_app {m : Mem} {c : Cell} : (m ++ [c])[m.length]? = some c := by simp
theorem set_app {m : Mem} {c c' : Cell} : (m ++ [c]).set m.length c' = m ++ [c'] := by
  rw [List.set_append_right _ _ (Nat.le_refl _), Nat.sub_self]
  rfl
theorem i_lowI {n : Nat} {i : Int} : D.low n (.int i) = true := Eq.trans rfl rfl
theorem i_lowB {n : Nat} {i : Bool} : D.low n (.bl i) = true := Eq.trans rfl rfl
theorem i_lowN {n : Nat} : D.low n .non = true := Eq.trans rfl rfl
theorem i_lowT {n : Nat} {xs : List D} : D.low n (.tup xs) = D.lows n xs := by simp only [D.low]
theorem lows_ints (n : Nat) : ∀ ns : List Int, D.lows n (ns.map .int) = true
  | [] => rfl
  | _ :: ns => by simp [D.lows, D.low, lows_ints n ns]
/-! ### rows of whole numbers -/
theorem dats_ints (rf : Nat → Option PyData) : ∀ ns : List Int, D.dats rf (ns.map .int) = some (ns.map .int)
  | [] => rfl
  | n :: ns => by simp [D.dats, D.dat, dats_ints rf ns]
theorem eqv_ints : ∀ ns ms : List Int, PyData.eqvAll (ns.map .int) (ms.map .int) = decide (ns = ms)
  | [], [] => rfl
  | [], _ :: _ => rfl
  | _ :: _, [] => rfl
  | n :: ns, k :: ms => by
    show (PyData.eqv (.int n) (.int k) && PyData.eqvAll (ns.map .int) (ms.map .int)) = _
    rw [eqv_ints ns ms]
    show (decide (n = k) && decide (ns = ms)) = _
    rw [← Bool.decide_and]
    exact decide_eq_decide.mpr (by simp)
theorem lay_ints : ∀ ns : List Int, PyData.canLayAll0 (ns.map .int) = true
  | [] => rfl
  | n :: ns => by simp [PyData.canLayAll0, PyData.canLay0, lay_ints ns]
theorem depth_ints : ∀ ns : List Int, PyData.depthAll (ns.map .int) = 0
  | [] => rfl
  | n :: ns => by simp [PyData.depthAll, PyData.depth, depth_ints ns]
theorem shaped_tup (ns : List Int) : SeqAt.shaped (.tuple (ns.map .int)) = true := by
  simp [SeqAt.shaped, PyData.canLay0, lay_ints, PyData.depth, depth_ints]
theorem shaped_lst (ns : List Int) : SeqAt.shaped (.list (ns.map .int)) = true := by
  simp [SeqAt.shaped, PyData.canLay0, lay_ints, PyData.depth, depth_ints]
section
variable {P : Prg} {call : Nat → List D → Mem → R (D × Mem)} {m : Mem}
theorem eq_tup {neg : Bool} (ns ms : List Int) : eqOf P call neg (.tup (ns.map .int)) (.tup (ms.map .int)) m = .ok (.bl (if neg then !decide (ns = ms) else decide (ns = ms)), m) := by
  simp only [eqOf, selfC, datOf, D.dat, dats_ints, Option.map_some, shaped_tup, Bool.and_self, if_true, PyData.eqv, eqv_ints]
theorem p_eqT (ns ms : List Int) : prim P call .eq [.tup (ns.map .int), .tup (ms.map .int)] m = .ok (.bl (decide (ns = ms)), m) := eq_tup (P := P) (call := call) (neg := false) ns ms
theorem p_neT (ns ms : List Int) : prim P call .ne [.tup (ns.map .int), .tup (ms.map .int)] m = .ok (.bl (!decide (ns = ms)), m) := eq_tup (P := P) (call := call) (neg := true) ns ms
theorem p_slT {fz : Bool} {xs : List D} {j : Int} : prim P call (.slice false true fz) [.tup xs, .int j] m = .ok (.tup (cutD xs none (some j)), m) := Eq.trans rfl rfl
theorem p_slF {fz : Bool} {xs : List D} {j : Int} : prim P call (.slice true false fz) [.tup xs, .int j] m = .ok (.tup (cutD xs (some j) none), m) := Eq.trans rfl rfl
theorem p_sl3 {fz : Bool} {xs : List D} {i j : Int} : sliceOf fz (.tup xs) (some i) (some j) m = .ok (.tup (cutD xs (some i) (some j)), m) := Eq.trans rfl rfl
end
theorem cut_take {xs : List D} {i : Nat} : cutD xs none (some (i : Int)) = xs.take i := by
  unfold cutD
  rw [HT.sIx_nat, HT.sIx_none]
  simp only [List.drop_zero, Nat.sub_zero]
  rw [List.take_eq_take_iff]
  omega
theorem cut_drop {xs : List D} {i : Nat} : cutD xs (some (i : Int)) none = xs.drop i := by
  unfold cutD
  rw [HT.sIx_nat, HT.sIx_none]
  by_cases h : i ≤ xs.length
  · rw [Nat.min_eq_left h]
    exact List.take_of_length_le (by simp)
  · rw [Nat.min_eq_right (by omega)]
    simp [List.drop_eq_nil_of_le (Nat.le_of_not_le h)]
theorem sum_nn : ∀ {ns : List Int}, (∀ n ∈ ns, 0 ≤ n) → 0 ≤ ns.sum
  | [], _ => by simp
  | n :: ns, h => by
    have := sum_nn (ns := ns) fun x hx => h x (List.mem_cons_of_mem _ hx)
    have := h n List.mem_cons_self
    simp
    omega
theorem sum_le {B : Int} : ∀ {ns : List Int}, (∀ n ∈ ns, n ≤ B) → ns.sum ≤ ns.length * B
  | [], _ => by simp
  | n :: ns, h => by
    have h1 := sum_le (B := B) (ns := ns) fun x hx => h x (List.mem_cons_of_mem _ hx)
    have h2 := h n List.mem_cons_self
    simp only [List.sum_cons, List.length_cons]
    have : ((ns.length + 1 : Nat) : Int) * B = ns.length * B + B := by
      rw [Int.natCast_add, Int.add_mul]
      simp
    omega
end Rf

/-! R16: more rows: plain data under ==, objects, lists, targets. -/
namespace Rf
open PySem L2
/-! ### plain data: no truth values, no live lists -/
mutual
def pl : Nat → D → Bool
  | _, .non => true
  | _, .int _ => true
  | _, .str s => PyData.strOk s
  | k + 1, .tup xs => pls k xs
  | k + 1, .lst xs => pls k xs
  | _, _ => false
def pls : Nat → List D → Bool
  | _, [] => true
  | k, x :: xs => pl k x && pls k xs
end
mutual
def toP : D → PyData
  | .int i => .int i
  | .str s => .str s
  | .bl b => .bool b
  | .tup xs => .tuple (toPs xs)
  | .lst xs => .list (toPs xs)
  | _ => .none
def toPs : List D → List PyData
  | [] => []
  | x :: xs => toP x :: toPs xs
end
mutual
theorem pl_dat (rf : Nat → Option PyData) : ∀ (k : Nat) (d : D), pl k d = true → D.dat rf d = some (toP d)
  | _, .non, _ => rfl
  | _, .int _, _ => rfl
  | _, .str _, _ => rfl
  | k + 1, .tup xs, h => by
    simp only [pl] at h
    simp only [D.dat, pls_dat rf k xs h, Option.map_some, toP]
  | k + 1, .lst xs, h => by
    simp only [pl] at h
    simp only [D.dat, pls_dat rf k xs h, Option.map_some, toP]
  | 0, .tup xs, h => by simp [pl] at h
  | 0, .lst xs, h => by simp [pl] at h
  | k, .bl _, h => by cases k <;> simp [pl] at h
  | k, .scr _, h => by cases k <;> simp [pl] at h
  | k, .ins _ _, h => by cases k <;> simp [pl] at h
  | k, .ref _, h => by cases k <;> simp [pl] at h
  | k, .fn _, h => by cases k <;> simp [pl] at h
theorem pls_dat (rf : Nat → Option PyData) : ∀ (k : Nat) (ds : List D), pls k ds = true → D.dats rf ds = some (toPs ds)
  | _, [], _ => rfl
  | k, x :: xs, h => by
    simp only [pls, Bool.and_eq_true] at h
    simp only [D.dats, pl_dat rf k x h.1, pls_dat rf k xs h.2, toPs]
end
mutual
theorem pl_lay : ∀ (k : Nat) (d : D), pl k d = true → (toP d).canLay0 = true ∧ (toP d).depth ≤ k
  | _, .non, _ => ⟨rfl, Nat.zero_le _⟩
  | _, .int _, _ => ⟨rfl, Nat.zero_le _⟩
  | k, .str s, h => ⟨by simp only [toP, PyData.canLay0]; cases k <;> simpa [pl] using h, Nat.zero_le _⟩
  | k + 1, .tup xs, h => by
    simp only [pl] at h
    obtain ⟨h1, h2⟩ := pls_lay k xs h
    exact ⟨by simpa only [toP, PyData.canLay0] using h1, by simp only [toP, PyData.depth]; omega⟩
  | k + 1, .lst xs, h => by
    simp only [pl] at h
    obtain ⟨h1, h2⟩ := pls_lay k xs h
    exact ⟨by simpa only [toP, PyData.canLay0] using h1, by simp only [toP, PyData.depth]; omega⟩
  | 0, .tup xs, h => by simp [pl] at h
  | 0, .lst xs, h => by simp [pl] at h
  | k, .bl _, h => by cases k <;> simp [pl] at h
  | k, .scr _, h => by cases k <;> simp [pl] at h
  | k, .ins _ _, h => by cases k <;> simp [pl] at h
  | k, .ref _, h => by cases k <;> simp [pl] at h
  | k, .fn _, h => by cases k <;> simp [pl] at h
theorem pls_lay : ∀ (k : Nat) (ds : List D), pls k ds = true → PyData.canLayAll0 (toPs ds) = true ∧ PyData.depthAll (toPs ds) ≤ k
  | _, [], _ => ⟨rfl, Nat.zero_le _⟩
  | k, x :: xs, h => by
    simp only [pls, Bool.and_eq_true] at h
    obtain ⟨h1, h2⟩ := pl_lay k x h.1
    obtain ⟨h3, h4⟩ := pls_lay k xs h.2
    exact ⟨by simp only [toPs, PyData.canLayAll0, h1, h3, Bool.and_self], by simp only [toPs, PyData.depthAll]; omega⟩
end
mutual
theorem pl_eqv : ∀ (k j : Nat) (a b : D), pl k a = true → pl j b = true → PyData.eqv (toP a) (toP b) = decide (a = b)
  | k, j, .non, b, _, h => by cases j <;> cases b <;> first | (simp [pl] at h; done) | simp [toP, PyData.eqv]
  | k, j, .int i, b, _, h => by
    cases j <;> cases b <;> first | (simp [pl] at h; done) | (simp [toP, PyData.eqv]; done) | (simp only [toP, PyData.eqv, D.int.injEq]; rfl)
  | k, j, .str s, b, _, h => by
    cases j <;> cases b <;> first | (simp [pl] at h; done) | (simp [toP, PyData.eqv]; done) | (simp only [toP, PyData.eqv, D.str.injEq]; first | rfl | exact beq_eq_decide _ _)
  | k + 1, j, .tup xs, b, h, h' => by
    simp only [pl] at h
    cases j <;> cases b <;> first | (simp [pl] at h'; done) | (simp [toP, PyData.eqv]; done) | skip
    rename_i j ys
    simp only [pl] at h'
    simp only [toP, PyData.eqv, D.tup.injEq]
    exact pls_eqv k j xs ys h h'
  | k + 1, j, .lst xs, b, h, h' => by
    simp only [pl] at h
    cases j <;> cases b <;> first | (simp [pl] at h'; done) | (simp [toP, PyData.eqv]; done) | skip
    rename_i j ys
    simp only [pl] at h'
    simp only [toP, PyData.eqv, D.lst.injEq]
    exact pls_eqv k j xs ys h h'
  | 0, _, .tup xs, _, h, _ => by simp [pl] at h
  | 0, _, .lst xs, _, h, _ => by simp [pl] at h
  | k, _, .bl _, _, h, _ => by cases k <;> simp [pl] at h
  | k, _, .scr _, _, h, _ => by cases k <;> simp [pl] at h
  | k, _, .ins _ _, _, h, _ => by cases k <;> simp [pl] at h
  | k, _, .ref _, _, h, _ => by cases k <;> simp [pl] at h
  | k, _, .fn _, _, h, _ => by cases k <;> simp [pl] at h
theorem pls_eqv : ∀ (k j : Nat) (a b : List D), pls k a = true → pls j b = true → PyData.eqvAll (toPs a) (toPs b) = decide (a = b)
  | _, _, [], [], _, _ => by simp [toPs, PyData.eqvAll]
  | _, _, [], _ :: _, _, _ => by simp [toPs, PyData.eqvAll]
  | _, _, _ :: _, [], _, _ => by simp [toPs, PyData.eqvAll]
  | k, j, x :: xs, y :: ys, h, h' => by
    simp only [pls, Bool.and_eq_true] at h h'
    simp only [toPs, PyData.eqvAll, pl_eqv k j x y h.1 h'.1, pls_eqv k j xs ys h.2 h'.2, List.cons.injEq]
    exact (Bool.decide_and _ _).symm
end
theorem pl_self {m : Mem} : ∀ {k : Nat} {d : D}, pl k d = true → selfC m d = none
  | _, .non, _ => rfl
  | _, .int _, _ => rfl
  | _, .str _, _ => rfl
  | _, .tup _, _ => rfl
  | _, .lst _, _ => rfl
  | k, .bl _, h => by cases k <;> simp [pl] at h
  | k, .scr _, h => by cases k <;> simp [pl] at h
  | k, .ins _ _, h => by cases k <;> simp [pl] at h
  | k, .ref _, h => by cases k <;> simp [pl] at h
  | k, .fn _, h => by cases k <;> simp [pl] at h
theorem pl_shaped {k : Nat} {d : D} (h : pl k d = true) (hk : k ≤ 64) : SeqAt.shaped (toP d) = true := by
  obtain ⟨h1, h2⟩ := pl_lay k d h
  unfold SeqAt.shaped
  rw [h1, decide_eq_true (by omega)]
  rfl
section
variable {P : Prg} {call : Nat → List D → Mem → R (D × Mem)} {ρ : Env} {m : Mem} {Q : D × Mem → Prop} {QS : Fl → Env → Mem → Prop} {QG : Env × Mem → Prop}
theorem eq_pl {neg : Bool} {k j : Nat} {a b : D} (h : pl k a = true) (h' : pl j b = true) (hk : k ≤ 64 := by decide) (hj : j ≤ 64 := by decide) : eqOf P call neg a b m = .ok (.bl (if neg then !decide (a = b) else decide (a = b)), m) := by
  simp only [eqOf, pl_self h, datOf, pl_dat _ k a h, pl_dat _ j b h', pl_shaped h hk, pl_shaped h' hj, Bool.and_self, if_true, pl_eqv k j a b h h']
theorem p_eqP {k j : Nat} {a b : D} (h : pl k a = true) (h' : pl j b = true) (hk : k ≤ 64 := by decide) (hj : j ≤ 64 := by decide) : prim P call .eq [a, b] m = .ok (.bl (decide (a = b)), m) := eq_pl (P := P) (call := call) (neg := false) h h' hk hj
theorem p_neP {k j : Nat} {a b : D} (h : pl k a = true) (h' : pl j b = true) (hk : k ≤ 64 := by decide) (hj : j ≤ 64 := by decide) : prim P call .ne [a, b] m = .ok (.bl (!decide (a = b)), m) := eq_pl (P := P) (call := call) (neg := true) h h' hk hj
/-- a live list of plain things beside a plain thing -/
theorem eq_ref {neg : Bool} {k j n : Nat} {xs : List D} {b : D} (hm : m[n]? = some (.lst xs)) (h : pls k xs = true) (h' : pl j b = true) (hk : k ≤ 63 := by decide) (hj : j ≤ 64 := by decide) : eqOf P call neg (.ref n) b m = .ok (.bl (if neg then !decide (.lst xs = b) else decide (.lst xs = b)), m) := by
  have hp : pl (k + 1) (.lst xs) = true := by simpa only [pl] using h
  have e : D.dat (refDat m 4) (.ref n) = some (toP (.lst xs)) := by
    simp only [D.dat, refDat, hm, pls_dat _ k xs h, Option.map_some, toP]
  have es : selfC m (.ref n) = none := by simp only [selfC, hm]
  simp only [eqOf, es, e, datOf, pl_dat _ j b h', pl_shaped hp (by omega), pl_shaped h' hj, Bool.and_self, if_true, pl_eqv (k + 1) j _ b hp h']
theorem p_neR {k j n : Nat} {xs : List D} {b : D} (hm : m[n]? = some (.lst xs)) (h : pls k xs = true) (h' : pl j b = true) (hk : k ≤ 63 := by decide) (hj : j ≤ 64 := by decide) : prim P call .ne [.ref n, b] m = .ok (.bl (!decide (.lst xs = b)), m) := eq_ref (P := P) (call := call) (neg := true) hm h h' hk hj
theorem p_eqR {k j n : Nat} {xs : List D} {b : D} (hm : m[n]? = some (.lst xs)) (h : pls k xs = true) (h' : pl j b = true) (hk : k ≤ 63 := by decide) (hj : j ≤ 64 := by decide) : prim P call .eq [.ref n, b] m = .ok (.bl (decide (.lst xs = b)), m) := eq_ref (P := P) (call := call) (neg := false) hm h h' hk hj
/-! ### objects -/
theorem p_eqIns {c : Nat} {fs : List D} {b : D} : prim P call .eq [.ins c fs, b] m = if known P m b then (nox (methOf P call c (.ins c fs) "__eq__" [b] m)).bind fun r => match r with
    | (.bl k, m') => .ok (.bl k, m')
    | _ => .bad else .bad := Eq.trans rfl rfl
theorem p_neIns {c : Nat} {fs : List D} {b : D} : prim P call .ne [.ins c fs, b] m = if known P m b then (nox (methOf P call c (.ins c fs) "__ne__" [b] m)).bind fun r => match r with
    | (.bl k, m') => .ok (.bl k, m')
    | _ => .bad else .bad := Eq.trans rfl rfl
theorem p_eqIns1 {c : Nat} {fs : List D} {b : D} {k : Bool} {m' : Mem} (hk : known P m b = true) (h : methOf P call c (.ins c fs) "__eq__" [b] m = .ok (.bl k, m')) : prim P call .eq [.ins c fs, b] m = .ok (.bl k, m') := by
  rw [p_eqIns, if_pos hk, h]; rfl
theorem p_neIns1 {c : Nat} {fs : List D} {b : D} {k : Bool} {m' : Mem} (hk : known P m b = true) (h : methOf P call c (.ins c fs) "__ne__" [b] m = .ok (.bl k, m')) : prim P call .ne [.ins c fs, b] m = .ok (.bl k, m') := by
  rw [p_neIns, if_pos hk, h]; rfl
theorem k_tup {xs : List D} : known P m (.tup xs) = true := Eq.trans rfl rfl
theorem k_lst {xs : List D} : known P m (.lst xs) = true := Eq.trans rfl rfl
theorem k_int {i : Int} : known P m (.int i) = true := Eq.trans rfl rfl
theorem k_ins {c : Nat} {fs : List D} : known P m (.ins c fs) = (P.cls[c]?).isSome := Eq.trans rfl rfl
/-- C(..), a class whose instances are not written later -/
theorem new_frz {c : Nat} {cl : Cl} {args ds : List D} {fs : List (Option D)} {m' : Mem} (hc : P.cls[c]? = some cl) (hf : cl.frozen = true) (hi : call cl.init (.ref m.length :: args) (m ++ [.obj c []]) = .ok (.non, m'))
    (ho : m'[m.length]? = some (.obj c fs)) (hs : somes fs = some ds) (hl : ds.length = cl.fields.length) (hw : D.lows m.length ds = true) (hk : oldOk m.length m m' = true) :
    prim P call (.new c) args m = .ok (.ins c ds, m'.take m.length) := by
  show newOf P call c args m = _
  unfold newOf
  rw [hc]
  dsimp only
  rw [hi]
  show (if cl.frozen = true then _ else _) = _
  rw [if_pos hf, ho]
  dsimp only
  rw [hs]
  dsimp only
  rw [if_pos ⟨rfl, hl, hw, hk⟩]
/-! ### lists -/
theorem p_app {n : Nat} {d : D} : Ok (prim P call (.meth "append") [.ref n, d] m) Q = ∃ xs, m[n]? = some (.lst xs) ∧ xs.length < LIM ∧ Q (.non, m.set n (.lst (xs ++ [d]))) := by
  cases e : m[n]? with
  | none => simp [prim, e, Ok_bad]
  | some c =>
    cases c with
    | lst xs =>
      simp only [prim, e, true_and, Option.some.injEq, Cell.lst.injEq, exists_eq_left']
      rw [Ok_ifb, Ok_ok]
    | obj c fs => simp [prim, e, Ok_bad]
    | _ => simp [prim, e, Ok_bad]
theorem i_isTt {xs : List D} : isT (.tup xs) = true := Eq.trans rfl rfl
theorem i_isTl {xs : List D} : isT (.lst xs) = false := Eq.trans rfl rfl
theorem i_isTr {n : Nat} : isT (.ref n) = false := Eq.trans rfl rfl
theorem l_len0 : (([] : List D).length ≤ LIM) = True := propext (iff_true_intro (Nat.zero_le _))
theorem l_len1 {a0 : D} : ([a0].length ≤ LIM) = True := propext (iff_true_intro (show 1 ≤ 16777216 by decide))
theorem l_len2 {a0 a1 : D} : ([a0, a1].length ≤ LIM) = True := propext (iff_true_intro (show 2 ≤ 16777216 by decide))
theorem l_len3 {a0 a1 a2 : D} : ([a0, a1, a2].length ≤ LIM) = True := propext (iff_true_intro (show 3 ≤ 16777216 by decide))
theorem l_len4 {a0 a1 a2 a3 : D} : ([a0, a1, a2, a3].length ≤ LIM) = True := propext (iff_true_intro (show 4 ≤ 16777216 by decide))
theorem l_len5 {a0 a1 a2 a3 a4 : D} : ([a0, a1, a2, a3, a4].length ≤ LIM) = True := propext (iff_true_intro (show 5 ≤ 16777216 by decide))
theorem l_len6 {a0 a1 a2 a3 a4 a5 : D} : ([a0, a1, a2, a3, a4, a5].length ≤ LIM) = True := propext (iff_true_intro (show 6 ≤ 16777216 by decide))
theorem l_len7 {a0 a1 a2 a3 a4 a5 a6 : D} : ([a0, a1, a2, a3, a4, a5, a6].length ≤ LIM) = True := propext (iff_true_intro (show 7 ≤ 16777216 by decide))
theorem l_len8 {a0 a1 a2 a3 a4 a5 a6 a7 : D} : ([a0, a1, a2, a3, a4, a5, a6, a7].length ≤ LIM) = True := propext (iff_true_intro (show 8 ≤ 16777216 by decide))
theorem l_len9 {a0 a1 a2 a3 a4 a5 a6 a7 a8 : D} : ([a0, a1, a2, a3, a4, a5, a6, a7, a8].length ≤ LIM) = True := propext (iff_true_intro (show 9 ≤ 16777216 by decide))
theorem l_len10 {a0 a1 a2 a3 a4 a5 a6 a7 a8 a9 : D} : ([a0, a1, a2, a3, a4, a5, a6, a7, a8, a9].length ≤ LIM) = True := propext (iff_true_intro (show 10 ≤ 16777216 by decide))
theorem l_len11 {a0 a1 a2 a3 a4 a5 a6 a7 a8 a9 a10 : D} : ([a0, a1, a2, a3, a4, a5, a6, a7, a8, a9, a10].length ≤ LIM) = True := propext (iff_true_intro (show 11 ≤ 16777216 by decide))
theorem l_len12 {a0 a1 a2 a3 a4 a5 a6 a7 a8 a9 a10 a11 : D} : ([a0, a1, a2, a3, a4, a5, a6, a7, a8, a9, a10, a11].length ≤ LIM) = True := propext (iff_true_intro (show 12 ≤ 16777216 by decide))
theorem recv_ref {n : Nat} {xs : List D} (h : m[n]? = some (.lst xs)) : recvK (.ref n) m = 1 := by
  simp only [recvK, h]
theorem p_mulL {fz : Bool} {xs : List D} {k : Int} : Ok (prim P call (.mul fz) [.lst xs, .int k] m) Q = ((0 ≤ k ∧ xs.length * k.toNat ≤ LIM ∧ k ≤ 16777216) ∧ Ok (mkL fz (List.replicate k.toNat xs).flatten m) Q) := by
  simp only [prim, lstOf, Ok_ifb]
theorem p_back {fz : Bool} {d : D} : Ok (prim P call (.back fz) [d] m) Q = ∃ xs, lstOf m d = some xs ∧ Ok (mkL fz xs.reverse m) Q := by
  show Ok (match lstOf m d with | some xs => mkL fz xs.reverse m | none => .bad) Q = _
  cases lstOf m d <;> simp [Ok_bad]
theorem p_slLt {fz : Bool} {xs : List D} {j : Int} : prim P call (.slice false true fz) [.lst xs, .int j] m = mkL fz (cutD xs none (some j)) m := Eq.trans rfl rfl
theorem p_slLf {fz : Bool} {xs : List D} {j : Int} : prim P call (.slice true false fz) [.lst xs, .int j] m = mkL fz (cutD xs (some j) none) m := Eq.trans rfl rfl
theorem l_ref {n : Nat} {xs : List D} (h : m[n]? = some (.lst xs)) : lstOf m (.ref n) = some xs := by
  simp only [lstOf, h]
theorem i_ref {n : Nat} {xs : List D} (h : m[n]? = some (.lst xs)) : itemsOf m (.ref n) = some xs := by
  simp only [itemsOf, lstOf, h]
theorem pairsD_map : ∀ ps : List (Int × Int), pairsD (ps.map pairT) = some ps
  | [] => rfl
  | p :: ps => by simp [pairsD, pairT, pairsD_map ps]
theorem intsD_pairs : ∀ p (ps : List (Int × Int)), intsD ((p :: ps).map pairT) = none
  | p, ps => rfl
theorem sort_pairs {fz : Bool} {d : D} {ps : List (Int × Int)} (h : itemsOf m d = some (ps.map pairT)) (ht : isT d = true ∨ ps ≠ []) : prim P call (.sorted fz) [d] m = mkL fz ((ps.mergeSort lexLe).map pairT) m := by
  have e : (lstOf m d).bind intsD = none := by
    cases d with
    | lst xs =>
      simp only [itemsOf, lstOf] at h
      cases h
      cases ps with
      | nil => rcases ht with h | h
               · cases h
               · exact absurd rfl h
      | cons p ps => rfl
    | ref n =>
      have h' : lstOf m (.ref n) = some (ps.map pairT) := h
      rw [h']
      cases ps with
      | nil => rcases ht with h | h
               · cases h
               · exact absurd rfl h
      | cons p ps => rfl
    | _ => rfl
  simp only [prim, e, h, Option.bind_some, pairsD_map]
theorem sort_ints {fz : Bool} {d : D} {ns : List Int} (h : lstOf m d = some (ns.map .int)) : prim P call (.sorted fz) [d] m = mkL fz ((ns.mergeSort fun a b => decide (a ≤ b)).map .int) m := by
  simp only [prim, h, Option.bind_some, intsD_map]
/-! ### targets of all kinds -/
theorem w_asgG {t : GT} {e : CE} : OkS (semS P call (.asgG t e) ρ m) QS = Ok (semE P call e ρ m) fun r => Ok (storeG P call t r.1 ρ r.2) fun x => QS .nx x.1 x.2 := by
  simp only [semS, OkS_lift]
  congr 1; funext r
  cases h : storeG P call t r.1 ρ r.2 with
  | ok x => simp [OkS_ok, Ok_ok]
  | exc c fs m => simp [OkS_bad, Ok_exc]
  | bad => simp [OkS_bad, Ok_bad]
theorem w_gName {i : Nat} {d : D} : Ok (storeG P call (.name i) d ρ m) QG = QG (ρ.set i (some d), m) := by
  simp only [storeG, Ok_ok]
theorem w_gIx {o i : CE} {d : D} : Ok (storeG P call (.ix o i) d ρ m) QG = Ok (semE P call o ρ m) fun r => Ok (semE P call i ρ r.2) fun r2 => ∃ m', setIxOf r.1 r2.1 d r2.2 = some m' ∧ QG (ρ, m') := by
  simp only [storeG, Ok_bind, Ok_nox]
  congr 1; funext r
  congr 1; funext r2
  cases h : setIxOf r.1 r2.1 d r2.2 with
  | none => simp [Ok_bad]
  | some m' => simp [Ok_ok]
theorem w_gAttr {o : CE} {f : Str} {d : D} : Ok (storeG P call (.attr o f) d ρ m) QG = Ok (semE P call o ρ m) fun r => ∃ m', setAttrOf P r.1 f d r.2 = some m' ∧ QG (ρ, m') := by
  simp only [storeG, Ok_bind, Ok_nox]
  congr 1; funext r
  cases h : setAttrOf P r.1 f d r.2 with
  | none => simp [Ok_bad]
  | some m' => simp [Ok_ok]
theorem w_gTup {ts : List GT} {ds : List D} : Ok (storeG P call (.tup ts) (.tup ds) ρ m) QG = Ok (storeGs P call ts ds ρ m) QG := by
  simp only [storeG]
theorem w_gNil : Ok (storeGs P call [] [] ρ m) QG = QG (ρ, m) := by simp only [storeGs, Ok_ok]
theorem w_gCons {t : GT} {ts : List GT} {d : D} {ds : List D} : Ok (storeGs P call (t :: ts) (d :: ds) ρ m) QG = Ok (storeG P call t d ρ m) fun r => Ok (storeGs P call ts ds r.1 r.2) QG := by
  simp only [storeGs, Ok_bind]
theorem w_setAttr {o : CE} {f : Str} {e : CE} : OkS (semS P call (.setAttr o f e) ρ m) QS = Ok (semE P call e ρ m) fun r => Ok (semE P call o ρ r.2) fun r2 => ∃ m', setAttrOf P r2.1 f r.1 r2.2 = some m' ∧ QS .nx ρ m' := by
  simp only [semS, OkS_lift, Ok_bind, OkS_ok]
  congr 1; funext r
  congr 1; funext r2
  cases h : setAttrOf P r2.1 f r.1 r2.2 with
  | none => simp [Ok_bad]
  | some m' => simp [Ok_ok]
end
theorem pls_ints (k : Nat) : ∀ ns : List Int, pls k (ns.map .int) = true
  | [] => by simp [pls]
  | n :: ns => by cases k <;> simp [pls, pl, pls_ints _ ns]
theorem pls_pairs (k : Nat) : ∀ ps : List (Int × Int), pls (k + 1) (ps.map pairT) = true
  | [] => by simp [pls]
  | p :: ps => by
    have : pl (k + 1) (pairT p) = true := by cases k <;> simp [pairT, pl, pls]
    simp only [List.map_cons, pls, this, pls_pairs k ps, Bool.and_self]
theorem pl_ints (ns : List Int) : pl 1 (.tup (ns.map .int)) = true := by simp only [pl]; exact pls_ints 0 ns
theorem pl_intsL (ns : List Int) : pl 1 (.lst (ns.map .int)) = true := by simp only [pl]; exact pls_ints 0 ns
theorem pl_pairs (ps : List (Int × Int)) : pl 2 (.tup (ps.map pairT)) = true := by simp only [pl]; exact pls_pairs 0 ps
theorem pl_pairsL (ps : List (Int × Int)) : pl 2 (.lst (ps.map pairT)) = true := by simp only [pl]; exact pls_pairs 0 ps
theorem pl_nil : pl 1 (.lst []) = true := by simp [pl, pls]
theorem pl_int (i : Int) : pl 0 (.int i) = true := by simp [pl]
theorem map_inj {α β : Type} {f : α → β} (hf : ∀ x y, f x = f y → x = y) : ∀ {xs ys : List α}, xs.map f = ys.map f ↔ xs = ys
  | [], [] => by simp
  | [], _ :: _ => by simp
  | _ :: _, [] => by simp
  | x :: xs, y :: ys => by
    simp only [List.map_cons, List.cons.injEq, map_inj hf (xs := xs) (ys := ys)]
    exact ⟨fun h => ⟨hf _ _ h.1, h.2⟩, fun h => ⟨by rw [h.1], h.2⟩⟩
theorem ints_inj {xs ys : List Int} : xs.map D.int = ys.map D.int ↔ xs = ys := map_inj fun _ _ h => by injection h
theorem pairs_inj {xs ys : List (Int × Int)} : xs.map pairT = ys.map pairT ↔ xs = ys := map_inj fun x y h => by
  simp only [pairT, D.tup.injEq, List.cons.injEq, D.int.injEq, and_true] at h
  exact Prod.ext h.1 h.2
section
variable {P : Prg} {call : Nat → List D → Mem → R (D × Mem)} {m : Mem}
theorem p_neTP (ps qs : List (Int × Int)) : prim P call .ne [.tup (ps.map pairT), .tup (qs.map pairT)] m = .ok (.bl (!decide (ps = qs)), m) := by
  rw [p_neP (pl_pairs ps) (pl_pairs qs)]
  simp only [D.tup.injEq, pairs_inj]
theorem p_eqTP (ps qs : List (Int × Int)) : prim P call .eq [.tup (ps.map pairT), .tup (qs.map pairT)] m = .ok (.bl (decide (ps = qs)), m) := by
  rw [p_eqP (pl_pairs ps) (pl_pairs qs)]
  simp only [D.tup.injEq, pairs_inj]
theorem p_eqLI (ps qs : List Int) : prim P call .eq [.lst (ps.map .int), .lst (qs.map .int)] m = .ok (.bl (decide (ps = qs)), m) := by
  rw [p_eqP (pl_intsL ps) (pl_intsL qs)]
  simp only [D.lst.injEq, ints_inj]
theorem p_neLI (ps qs : List Int) : prim P call .ne [.lst (ps.map .int), .lst (qs.map .int)] m = .ok (.bl (!decide (ps = qs)), m) := by
  rw [p_neP (pl_intsL ps) (pl_intsL qs)]
  simp only [D.lst.injEq, ints_inj]
end
theorem lows_pairs (n : Nat) : ∀ ps : List (Int × Int), D.lows n (ps.map pairT) = true
  | [] => rfl
  | _ :: ps => by simp [D.lows, D.low, pairT, lows_pairs n ps]
/-! ### comprehensions that leave the memory as it is -/
section
variable {α : Type} {cond : Env → Mem → R (Bool × Mem)} {elt : Env → Mem → R (D × Mem)} {t : CT} {ok : Mem → Bool} {ρ : Env} {m : Mem} {Q : List D × Mem → Prop}
theorem lc_pure (g f : α → D) (c : α → Bool) {xs : List α} (hok : ok m = true) (h : ∀ x ∈ xs, ∃ ρ1, assignT t (g x) ρ = some ρ1 ∧ Ok (cond ρ1 m) fun r => r = (c x, m) ∧ (c x = true → Ok (elt ρ1 m) fun y => y = (f x, m))) (hq : Q ((xs.filter c).map f, m)) : Ok (lcL cond elt t ok ρ (xs.map g) m) Q := by
  refine lc_ok (fun i as m' => m' = m ∧ as = ((xs.take i).filter c).map f) ⟨rfl, rfl⟩ (fun _ _ _ h => by rw [h.1]; exact hok) ?_ ?_
  · rintro i d as m' hd ⟨rfl, rfl⟩
    rw [List.getElem?_map, Option.map_eq_some_iff] at hd
    obtain ⟨x, hx, rfl⟩ := hd
    obtain ⟨ρ1, h1, h2⟩ := h x (List.mem_of_getElem? hx)
    refine ⟨ρ1, h1, h2.imp fun r ⟨e, h3⟩ => ?_⟩
    subst e
    have e : xs.take (i + 1) = xs.take i ++ [x] := by rw [List.take_add_one, hx]; rfl
    by_cases hc : c x = true
    · rw [if_pos hc]
      refine (h3 hc).imp fun y ey => ?_
      subst ey
      refine ⟨rfl, ?_⟩
      rw [e, List.filter_append, List.map_append]
      simp [hc]
    · rw [if_neg hc]
      refine ⟨rfl, ?_⟩
      rw [e, List.filter_append]
      simp [hc]
  · rintro bs m' ⟨rfl, rfl⟩
    rw [List.length_map, List.take_length]
    exact hq
theorem lc_map (g f : α → D) {xs : List α} (hok : ok m = true) (hc : ∀ ρ1, cond ρ1 m = .ok (true, m)) (h : ∀ x ∈ xs, ∃ ρ1, assignT t (g x) ρ = some ρ1 ∧ Ok (elt ρ1 m) fun y => y = (f x, m)) (hq : Q (xs.map f, m)) : Ok (lcL cond elt t ok ρ (xs.map g) m) Q := by
  refine lc_pure g f (fun _ => true) hok (fun x hx => ?_) (by rw [List.filter_eq_self.mpr fun _ _ => rfl]; exact hq)
  obtain ⟨ρ1, h1, h2⟩ := h x hx
  refine ⟨ρ1, h1, ?_⟩
  rw [hc, Ok_ok]
  exact ⟨rfl, fun _ => h2⟩
end
theorem boolsD_mapF {α : Type} (f : α → Bool) : ∀ xs : List α, boolsD (xs.map fun x => .bl (f x)) = some (xs.map f)
  | [] => rfl
  | x :: xs => by simp [boolsD, boolsD_mapF f xs]
theorem intsD_mapF {α : Type} (f : α → Int) : ∀ xs : List α, intsD (xs.map fun x => .int (f x)) = some (xs.map f)
  | [] => rfl
  | x :: xs => by simp [intsD, intsD_mapF f xs]
theorem zipD_map {α β : Type} (f : α → D) (g : β → D) : ∀ (xs : List α) (ys : List β), zipD (xs.map f) (ys.map g) = (xs.zip ys).map fun p => .tup [f p.1, g p.2]
  | [], _ => by simp [zipD]
  | _ :: _, [] => by simp [zipD]
  | x :: xs, y :: ys => by simp [zipD, zipD_map f g xs ys]
theorem cut_dropN {α : Type} (f : α → D) {xs : List α} {i : Nat} : cutD (xs.map f) (some (i : Int)) none = (xs.drop i).map f := by
  rw [cut_drop, List.map_drop]
theorem cut_drop1 {α : Type} (f : α → D) {xs : List α} : cutD (xs.map f) (some 1) none = (xs.drop 1).map f := cut_dropN f (i := 1)
theorem rangeD_map {lo : Int} {n : Nat} : rangeD lo n = (List.range n).map fun (k : Nat) => D.int (lo + k) := rfl
theorem enumD_map {α : Type} (f : α → D) : ∀ (k : Nat) (xs : List α), enumD k (xs.map f) = (xs.zipIdx k).map fun p => .tup [.int (p.2 : Nat), f p.1]
  | _, [] => rfl
  | k, x :: xs => by simp [enumD, enumD_map f (k + 1) xs]
theorem ix_last {α : Type} {a : List α} {x : α} : ixN (a ++ [x]).length (-1) = some a.length := by
  unfold ixN
  rw [if_neg (by omega), if_pos (by simp; omega)]
  congr 1
  simp
  omega
theorem set_last {α : Type} {a : List α} {x y : α} : (a ++ [x]).set a.length y = a ++ [y] := by
  rw [List.set_append_right _ _ (Nat.le_refl _), Nat.sub_self]
  rfl
theorem set_at_last {m : Mem} {a : List D} {x d : D} : setIxOf (.ref m.length) (.int (-1)) d (m ++ [.lst (a ++ [x])]) = some (m ++ [.lst (a ++ [d])]) := by
  simp only [setIxOf, at_app, ix_last, Option.map_some, set_app, set_last]
theorem oldOk_pre (n : Nat) : ∀ m a b : Mem, oldOk n (m ++ a) (m ++ b) = oldOk n a b
  | [], _, _ => rfl
  | c :: m, a, b => by simp [oldOk, oldOk_pre n m a b]
theorem cut_upd {m : Mem} {c c' : Cell} (h : c'.low (m.length + 1) = true) : cut (m ++ [c]) .non (m ++ [c']) = (.non, m ++ [c']) := by
  rw [cut_low (by rw [oldOk_pre]; simp [oldOk, h]) rfl, List.take_of_length_le (by simp)]
theorem low_obj1 {n c : Nat} {d : D} (h : d.low n = true) : (Cell.obj c [some d]).low n = true := by
  simp [Cell.low, h]
theorem oldOk_setA (n : Nat) {c : Cell} (h : c.low n = true) : ∀ (m : Mem) (i : Nat) (l : Mem), oldOk n m (m.set i c ++ l) = true
  | [], _, _ => rfl
  | x :: m, 0, l => by simp [oldOk, h, oldOk_app]
  | x :: m, i + 1, l => by simp [oldOk, oldOk_setA n h m i l]
theorem cut_dcA {m l : Mem} {n : Nat} {a b c : Int} {d : D} (h : d.low m.length = true) : cut m d (m.set n (dc a b c) ++ l) = (d, m.set n (dc a b c)) := by
  rw [cut_low (oldOk_setA _ low_dc m n l) h]
  congr 1
  rw [List.take_append_of_le_length (by simp), List.take_of_length_le (by simp)]
theorem set_lt {m l : Mem} {n : Nat} {c c' : Cell} (h : m[n]? = some c) : (m ++ l).set n c' = m.set n c' ++ l := List.set_append_left _ _ (List.getElem?_eq_some_iff.mp h).1
theorem at_lt {m l : Mem} {n : Nat} {c : Cell} (h : m[n]? = some c) : (m ++ l)[n]? = some c := by
  rw [List.getElem?_append_left (List.getElem?_eq_some_iff.mp h).1, h]
theorem at_appS {m : Mem} {n : Nat} {c c' : Cell} : (m.set n c' ++ [c])[m.length]? = some c := by
  have := at_app (m := m.set n c') (c := c)
  rwa [List.length_set] at this
theorem set_appS {m : Mem} {n : Nat} {c c' d : Cell} : (m.set n c' ++ [c]).set m.length d = m.set n c' ++ [d] := by
  have := set_app (m := m.set n c') (c := c) (c' := d)
  rwa [List.length_set] at this
theorem i_recvI {c : Nat} {fs : List D} {m : Mem} : recvK (.ins c fs) m = 2 := Eq.trans rfl rfl
theorem cut_pl {m l : Mem} {d : D} (h : d.low m.length = true) : cut m d (m ++ l) = (d, m) := cut_app h
end Rf

/-! the program of the law, in the own syntax -/
namespace HT
open Rf
/-- is_integer(value) -/
def b0 : CSs := .cons (.ret (.andE (.op (.isI "int") (.cons (.var 0) (.nil))) (.op .not (.cons (.op (.isI "bool") (.cons (.var 0) (.nil))) (.nil))))) .nil
def f0 : Fn := ⟨1, 1, b0⟩
/-- is_within(value, low, most) -/
def b1 : CSs := .cons (.ret (.andE (.op (.call 0) (.cons (.var 0) (.nil))) (.chain .le .le (.var 1) (.var 0) (.var 2)))) .nil
def f1 : Fn := ⟨3, 3, b1⟩
def b2x1 : CSs := .cons (.ret (.const (.bl false))) .nil
def b2x2 : CSs := .cons (.ret (.const (.bl false))) .nil
def b2t2 : CSs := .cons (.ret (.op .all (.cons (.lc true [1, 2] (.tup [(.name 1), (.name 2)]) (.zip (.var 0) (.op (.slice true false true) (.cons (.var 0) (.cons (.const (.int 1)) (.nil))))) .nil (.andE (.op .gt (.cons (.var 1) (.cons (.var 2) (.nil)))) (.op .eq (.cons (.op .mod (.cons (.var 1) (.cons (.var 2) (.nil)))) (.cons (.const (.int 0)) (.nil)))))) (.nil)))) .nil
def b2t1 : CSs := .cons (.ifs (.op .not (.cons (.op .all (.cons (.lc true [1] (.name 1) (.over (.var 0)) .nil (.op (.call 1) (.cons (.var 1) (.cons (.const (.int 1)) (.cons (.glob 0) (.nil)))))) (.nil))) (.nil))) b2x2 .nil) b2t2
/-- are_sizes(value, one, other) -/
def b2 : CSs := .cons (.ifs (.orE (.op .not (.cons (.op (.isI "tuple") (.cons (.var 0) (.nil))) (.nil))) (.op .not (.cons (.chain .le .le (.const (.int 1)) (.op .len (.cons (.var 0) (.nil))) (.glob 1)) (.nil)))) b2x1 .nil) b2t1
def f2 : Fn := ⟨1, 3, b2⟩
def b3x1 : CSs := .cons .bad .nil
/-- require_scale(scale) -/
def b3 : CSs := .cons (.ifs (.op .not (.cons (.op (.isC 0) (.cons (.var 0) (.nil))) (.nil))) b3x1 .nil) .nil
def f3 : Fn := ⟨1, 1, b3⟩
def b4x1 : CSs := .cons (.ret (.const (.bl false))) .nil
def b4t1 : CSs := .cons (.ret (.andE (.op (.call 1) (.cons (.op .ix (.cons (.var 0) (.cons (.const (.int 0)) (.nil)))) (.cons (.const (.int 1)) (.cons (.glob 3) (.nil))))) (.op (.call 1) (.cons (.op .ix (.cons (.var 0) (.cons (.const (.int 1)) (.nil)))) (.cons (.const (.int 1)) (.cons (.glob 4) (.nil))))))) .nil
/-- is_row(value) -/
def b4 : CSs := .cons (.ifs (.orE (.op .not (.cons (.op (.isI "tuple") (.cons (.var 0) (.nil))) (.nil))) (.op .ne (.cons (.op .len (.cons (.var 0) (.nil))) (.cons (.const (.int 2)) (.nil))))) b4x1 .nil) b4t1
def f4 : Fn := ⟨1, 1, b4⟩
/-- holds_in(rows, room, times) -/
def b5 : CSs := .cons (.ret (.op .sum (.cons (.lc true [1, 2] (.tup [(.name 1), (.name 2)]) (.over (.var 0)) .nil (.var 2)) (.nil)))) .nil
def f5 : Fn := ⟨1, 3, b5⟩
/-- room_in(rows, room, times) -/
def b6 : CSs := .cons (.ret (.op .sum (.cons (.lc true [1, 2] (.tup [(.name 1), (.name 2)]) (.over (.var 0)) .nil (.op (.mul true) (.cons (.var 1) (.cons (.var 2) (.nil))))) (.nil)))) .nil
def f6 : Fn := ⟨1, 3, b6⟩
def b7x1 : CSs := .cons (.ret (.const (.bl false))) .nil
def b7t1 : CSs := .cons (.ret (.op .le (.cons (.op (.call 6) (.cons (.var 0) (.nil))) (.cons (.glob 3) (.nil))))) .nil
/-- are_rows(value, one) -/
def b7 : CSs := .cons (.ifs (.orE (.op .not (.cons (.op (.isI "tuple") (.cons (.var 0) (.nil))) (.nil))) (.orE (.op .gt (.cons (.op .len (.cons (.var 0) (.nil))) (.cons (.glob 2) (.nil)))) (.op .not (.cons (.op .all (.cons (.lc true [1] (.name 1) (.over (.var 0)) .nil (.op (.call 4) (.cons (.var 1) (.nil)))) (.nil))) (.nil))))) b7x1 .nil) b7t1
def f7 : Fn := ⟨1, 2, b7⟩
def b8x2 : CSs := .cons (.setIx (.var 1) (.op .neg (.cons (.const (.int 1)) (.nil))) (.op .tup (.cons (.var 2) (.cons (.op (.add true) (.cons (.op .ix (.cons (.op .ix (.cons (.var 1) (.cons (.op .neg (.cons (.const (.int 1)) (.nil))) (.nil)))) (.cons (.const (.int 1)) (.nil)))) (.cons (.var 3) (.nil)))) (.nil))))) .nil
def b8x3 : CSs := .cons (.expr (.meth 1 "append" (.var 1) (.cons (.op .tup (.cons (.var 2) (.cons (.var 3) (.nil)))) (.nil)))) .nil
def b8x1 : CSs := .cons (.ifs (.andE (.op .ne (.cons (.var 1) (.cons (.op (.lst true) .nil) (.nil)))) (.op .eq (.cons (.op .ix (.cons (.op .ix (.cons (.var 1) (.cons (.op .neg (.cons (.const (.int 1)) (.nil))) (.nil)))) (.cons (.const (.int 0)) (.nil)))) (.cons (.var 2) (.nil))))) b8x2 b8x3) .nil
def b8t2 : CSs := .cons (.ret (.op .tupOf (.cons (.var 1) (.nil)))) .nil
def b8t1 : CSs := .cons (.fors (.tup [(.name 2), (.name 3)]) (.over (.var 0)) b8x1) b8t2
/-- lean(rows, found, room, times) -/
def b8 : CSs := .cons (.assign (.name 1) (.op (.lst false) .nil)) b8t1
def f8 : Fn := ⟨1, 4, b8⟩
def b9x2 : CSs := .cons (.expr (.meth 1 "append" (.var 2) (.cons (.op .tup (.cons (.var 3) (.cons (.var 5) (.nil)))) (.nil)))) .nil
def b9x1t2 : CSs := .cons (.aug 1 .sub (.var 5)) .nil
def b9x1t1 : CSs := .cons (.ifs (.op .gt (.cons (.var 5) (.cons (.const (.int 0)) (.nil)))) b9x2 .nil) b9x1t2
def b9x1 : CSs := .cons (.assign (.name 5) (.op .min2 (.cons (.var 4) (.cons (.var 1) (.nil))))) b9x1t1
def b9t2 : CSs := .cons (.ret (.var 2)) .nil
def b9t1 : CSs := .cons (.fors (.tup [(.name 3), (.name 4)]) (.over (.var 0)) b9x1) b9t2
/-- first_in(rows, many, found, room, times, here) -/
def b9 : CSs := .cons (.assign (.name 2) (.op (.lst false) .nil)) b9t1
def f9 : Fn := ⟨2, 6, b9⟩
/-- places_in(sizes, rows, size, room, times) -/
def b10 : CSs := .cons (.ret (.lc true [2] (.name 2) (.over (.var 0)) .nil (.op .sum (.cons (.lc true [3, 4] (.tup [(.name 3), (.name 4)]) (.over (.var 1)) .nil (.op (.mul true) (.cons (.op .fdiv (.cons (.var 3) (.cons (.var 2) (.nil)))) (.cons (.var 4) (.nil))))) (.nil))))) .nil
def f10 : Fn := ⟨2, 5, b10⟩
def b11x1 : CSs := .cons .bad .nil
/-- require_stock(stock) -/
def b11 : CSs := .cons (.ifs (.op .not (.cons (.op (.isC 1) (.cons (.var 0) (.nil))) (.nil))) b11x1 .nil) .nil
def f11 : Fn := ⟨1, 1, b11⟩
def b12x1 : CSs := .cons .bad .nil
/-- require_index(stock, index) -/
def b12 : CSs := .cons (.ifs (.op .not (.cons (.op (.call 1) (.cons (.var 1) (.cons (.const (.int 0)) (.cons (.op .sub (.cons (.op (.attr "holds") (.cons (.var 0) (.nil))) (.cons (.const (.int 1)) (.nil)))) (.nil))))) (.nil))) b12x1 .nil) .nil
def f12 : Fn := ⟨2, 2, b12⟩
def b13x1 : CSs := .cons .bad .nil
/-- require_many(stock, many) -/
def b13 : CSs := .cons (.ifs (.op .not (.cons (.op (.call 1) (.cons (.var 1) (.cons (.const (.int 0)) (.cons (.op (.attr "holds") (.cons (.var 0) (.nil))) (.nil))))) (.nil))) b13x1 .nil) .nil
def f13 : Fn := ⟨2, 2, b13⟩
/-- is_stock(value) -/
def b14 : CSs := .cons (.ret (.op (.call 7) (.cons (.var 0) (.nil)))) .nil
def f14 : Fn := ⟨1, 1, b14⟩
def b15t2 : CSs := .cons (.ret (.op .tupOf (.cons (.op (.call 10) (.cons (.op (.attr "sizes") (.cons (.var 0) (.nil))) (.cons (.op (.attr "rows") (.cons (.var 1) (.nil))) (.nil)))) (.nil)))) .nil
def b15t1 : CSs := .cons (.expr (.op (.call 11) (.cons (.var 1) (.nil)))) b15t2
/-- places(scale, stock) -/
def b15 : CSs := .cons (.expr (.op (.call 3) (.cons (.var 0) (.nil)))) b15t1
def f15 : Fn := ⟨2, 2, b15⟩
def b16t2 : CSs := .cons (.ret (.op (.new 1) (.cons (.op .tupOf (.cons (.op (.call 9) (.cons (.op (.attr "rows") (.cons (.var 0) (.nil))) (.cons (.var 1) (.nil)))) (.nil))) (.nil)))) .nil
def b16t1 : CSs := .cons (.expr (.op (.call 13) (.cons (.var 0) (.cons (.var 1) (.nil))))) b16t2
/-- first_holds(stock, many) -/
def b16 : CSs := .cons (.expr (.op (.call 11) (.cons (.var 0) (.nil)))) b16t1
def f16 : Fn := ⟨2, 2, b16⟩
def b17t2 : CSs := .cons (.ret (.op (.new 1) (.cons (.op .tupOf (.cons (.op (.call 9) (.cons (.op (.back true) (.cons (.op (.sorted true) (.cons (.op (.attr "rows") (.cons (.var 0) (.nil))) (.nil))) (.nil))) (.cons (.var 1) (.nil)))) (.nil))) (.nil)))) .nil
def b17t1 : CSs := .cons (.expr (.op (.call 13) (.cons (.var 0) (.cons (.var 1) (.nil))))) b17t2
/-- greatest_holds(stock, many) -/
def b17 : CSs := .cons (.expr (.op (.call 11) (.cons (.var 0) (.nil)))) b17t1
def f17 : Fn := ⟨2, 2, b17⟩
def b18x1 : CSs := .cons .bad .nil
def b18x2 : CSs := .cons .bad .nil
def b18t5 : CSs := .cons (.ret (.op (.new 1) (.cons (.var 2) (.nil)))) .nil
def b18t4 : CSs := .cons (.ifs (.op .gt (.cons (.op .len (.cons (.var 2) (.nil))) (.cons (.glob 2) (.nil)))) b18x2 .nil) b18t5
def b18t3 : CSs := .cons (.assign (.name 2) (.op (.call 8) (.cons (.op (.add true) (.cons (.op (.attr "rows") (.cons (.var 0) (.nil))) (.cons (.op (.attr "rows") (.cons (.var 1) (.nil))) (.nil)))) (.nil)))) b18t4
def b18t2 : CSs := .cons (.ifs (.op .gt (.cons (.op (.add true) (.cons (.op (.attr "room") (.cons (.var 0) (.nil))) (.cons (.op (.attr "room") (.cons (.var 1) (.nil))) (.nil)))) (.cons (.glob 3) (.nil)))) b18x1 .nil) b18t3
def b18t1 : CSs := .cons (.expr (.op (.call 11) (.cons (.var 1) (.nil)))) b18t2
/-- joined(one, other, rows) -/
def b18 : CSs := .cons (.expr (.op (.call 11) (.cons (.var 0) (.nil)))) b18t1
def f18 : Fn := ⟨2, 3, b18⟩
def b19x1 : CSs := .cons .bad .nil
def b19t2 : CSs := .cons (.ret (.op (.new 1) (.cons (.op .tupOf (.cons (.lc true [2, 3] (.tup [(.name 2), (.name 3)]) (.over (.op (.attr "rows") (.cons (.var 0) (.nil)))) (.cons (.op .ge (.cons (.var 2) (.cons (.var 1) (.nil)))) (.nil)) (.op .tup (.cons (.op (.mul true) (.cons (.op .fdiv (.cons (.var 2) (.cons (.var 1) (.nil)))) (.cons (.var 1) (.nil)))) (.cons (.var 3) (.nil))))) (.nil))) (.nil)))) .nil
def b19t1 : CSs := .cons (.ifs (.op .not (.cons (.op (.call 1) (.cons (.var 1) (.cons (.const (.int 1)) (.cons (.glob 3) (.nil))))) (.nil))) b19x1 .nil) b19t2
/-- rounded(stock, size, room, times) -/
def b19 : CSs := .cons (.expr (.op (.call 11) (.cons (.var 0) (.nil)))) b19t1
def f19 : Fn := ⟨2, 4, b19⟩
def b20x1 : CSs := .cons .bad .nil
def b20x3 : CSs := .cons (.ret (.op .tup (.cons (.op (.add true) (.cons (.var 2) (.cons (.op .fdiv (.cons (.var 1) (.cons (.var 3) (.nil)))) (.nil)))) (.cons (.op .mod (.cons (.var 1) (.cons (.var 3) (.nil)))) (.nil))))) .nil
def b20x2t1 : CSs := .cons (.par [2, 1] (.cons (.op (.add true) (.cons (.var 2) (.cons (.var 4) (.nil)))) (.cons (.op .sub (.cons (.var 1) (.cons (.op (.mul true) (.cons (.var 3) (.cons (.var 4) (.nil)))) (.nil)))) (.nil)))) .nil
def b20x2 : CSs := .cons (.ifs (.op .lt (.cons (.var 1) (.cons (.op (.mul true) (.cons (.var 3) (.cons (.var 4) (.nil)))) (.nil)))) b20x3 .nil) b20x2t1
def b20t4 : CSs := .cons (.ret (.op .tup (.cons (.var 2) (.cons (.var 1) (.nil))))) .nil
def b20t3 : CSs := .cons (.fors (.tup [(.name 3), (.name 4)]) (.over (.op (.attr "rows") (.cons (.var 0) (.nil)))) b20x2) b20t4
def b20t2 : CSs := .cons (.assign (.name 2) (.const (.int 0))) b20t3
def b20t1 : CSs := .cons (.ifs (.op .not (.cons (.op (.call 1) (.cons (.var 1) (.cons (.const (.int 0)) (.cons (.op .sub (.cons (.op (.attr "room") (.cons (.var 0) (.nil))) (.cons (.const (.int 1)) (.nil)))) (.nil))))) (.nil))) b20x1 .nil) b20t2
/-- hold_at(stock, place, ahead, room, times) -/
def b20 : CSs := .cons (.expr (.op (.call 11) (.cons (.var 0) (.nil)))) b20t1
def f20 : Fn := ⟨2, 5, b20⟩
def b21t3 : CSs := .cons (.ret (.op (.lst false) (.cons (.op .max2 (.cons (.const (.int 0)) (.cons (.op .sub (.cons (.var 3) (.cons (.op .pow (.cons (.const (.int 10)) (.cons (.const (.int 16)) (.nil)))) (.nil)))) (.nil)))) (.cons (.var 4) (.cons (.const (.int 0)) (.nil)))))) .nil
def b21t2 : CSs := .cons (.assign (.name 4) (.op (.add true) (.cons (.op (.add true) (.cons (.op (.add true) (.cons (.op (.mul true) (.cons (.op .mod (.cons (.var 3) (.cons (.const (.int 2305843009213693921)) (.nil)))) (.cons (.const (.int 109)) (.nil)))) (.cons (.op (.mul true) (.cons (.const (.int 821)) (.cons (.var 1) (.nil)))) (.nil)))) (.cons (.op (.mul true) (.cons (.const (.int 73)) (.cons (.op .int (.cons (.op .lt (.cons (.var 2) (.cons (.const (.int 0)) (.nil)))) (.nil))) (.nil)))) (.nil)))) (.cons (.const (.int 59)) (.nil))))) b21t3
def b21t1 : CSs := .cons (.assign (.name 3) (.op .mod (.cons (.op .int (.cons (.op .abs (.cons (.var 2) (.nil))) (.nil))) (.cons (.op .pow (.cons (.op .pow (.cons (.const (.int 10)) (.cons (.const (.int 54)) (.nil)))) (.cons (.const (.int 6)) (.nil)))) (.nil))))) b21t2
/-- _law_dice(script, spot, cell, great, seed) -/
def b21 : CSs := .cons (.assign (.name 2) (.ife (.op .lt (.cons (.var 1) (.cons (.op .len (.cons (.var 0) (.nil))) (.nil)))) (.op .int (.cons (.op .ix (.cons (.var 0) (.cons (.var 1) (.nil)))) (.nil))) (.op (.add true) (.cons (.op (.mul true) (.cons (.const (.int 151)) (.cons (.var 1) (.nil)))) (.cons (.const (.int 73)) (.nil)))))) b21t1
def f21 : Fn := ⟨2, 5, b21⟩
def b22x1t2 : CSs := .cons (.ret (.op .int (.cons (.var 2) (.nil)))) .nil
def b22x1t1 : CSs := .cons (.setIx (.var 0) (.const (.int 0)) (.op .fdiv (.cons (.op .ix (.cons (.var 0) (.cons (.const (.int 0)) (.nil)))) (.cons (.var 1) (.nil))))) b22x1t2
def b22x1 : CSs := .cons (.assign (.name 2) (.op .mod (.cons (.op .ix (.cons (.var 0) (.cons (.const (.int 0)) (.nil)))) (.cons (.var 1) (.nil))))) b22x1t1
def b22t4 : CSs := .cons (.ret (.op .mod (.cons (.op .int (.cons (.op .fdiv (.cons (.var 4) (.cons (.const (.int 65579)) (.nil)))) (.nil))) (.cons (.var 1) (.nil))))) .nil
def b22t3 : CSs := .cons (.assign (.name 4) (.op (.add true) (.cons (.op (.mul true) (.cons (.op .mod (.cons (.op (.add true) (.cons (.op (.mul true) (.cons (.var 3) (.cons (.var 3) (.nil)))) (.cons (.op (.mul true) (.cons (.const (.int 233)) (.cons (.op .ix (.cons (.var 0) (.cons (.const (.int 2)) (.nil)))) (.nil)))) (.nil)))) (.cons (.const (.int 2305843009213693907)) (.nil)))) (.cons (.const (.int 15485867)) (.nil)))) (.cons (.var 3) (.nil))))) b22t4
def b22t2 : CSs := .cons (.assign (.name 3) (.op .mod (.cons (.op (.add true) (.cons (.op .ix (.cons (.var 0) (.cons (.const (.int 1)) (.nil)))) (.cons (.op (.mul true) (.cons (.const (.int 86028157)) (.cons (.op .ix (.cons (.var 0) (.cons (.const (.int 2)) (.nil)))) (.nil)))) (.nil)))) (.cons (.const (.int 2305843009213693951)) (.nil))))) b22t3
def b22t1 : CSs := .cons (.setIx (.var 0) (.const (.int 2)) (.op (.add true) (.cons (.op .ix (.cons (.var 0) (.cons (.const (.int 2)) (.nil)))) (.cons (.const (.int 1)) (.nil))))) b22t2
/-- _law_roll(dice, total, found, one, two) -/
def b22 : CSs := .cons (.ifs (.op .gt (.cons (.op .ix (.cons (.var 0) (.cons (.const (.int 0)) (.nil)))) (.cons (.const (.int 0)) (.nil)))) b22x1 .nil) b22t1
def f22 : Fn := ⟨2, 5, b22⟩
/-- _law_pick(dice, items) -/
def b23 : CSs := .cons (.ret (.op .ix (.cons (.var 1) (.cons (.op (.call 22) (.cons (.var 0) (.cons (.op .len (.cons (.var 1) (.nil))) (.nil)))) (.nil))))) .nil
def f23 : Fn := ⟨2, 2, b23⟩
def b24x1 : CSs := .cons (.expr (.meth 1 "append" (.var 2) (.cons (.op (.mul true) (.cons (.op .ix (.cons (.var 2) (.cons (.op .neg (.cons (.const (.int 1)) (.nil))) (.nil)))) (.cons (.op (.call 23) (.cons (.var 0) (.cons (.op (.lst true) (.cons (.const (.int 2)) (.cons (.const (.int 2)) (.cons (.const (.int 3)) (.cons (.const (.int 5)) (.nil)))))) (.nil)))) (.nil)))) (.nil)))) .nil
def b24t2 : CSs := .cons (.ret (.op .tupOf (.cons (.op (.back true) (.cons (.var 2) (.nil))) (.nil)))) .nil
def b24t1 : CSs := .cons (.fors (.name 3) (.range (.cons (.op (.call 22) (.cons (.var 0) (.cons (.var 1) (.nil)))) (.nil))) b24x1) b24t2
/-- _law_cl_scale(dice, most, found, turn) -/
def b24 : CSs := .cons (.assign (.name 2) (.op (.lst false) (.cons (.op (.call 23) (.cons (.var 0) (.cons (.op (.lst true) (.cons (.const (.int 1)) (.cons (.const (.int 1)) (.cons (.const (.int 2)) (.cons (.const (.int 3)) (.nil)))))) (.nil)))) (.nil)))) b24t1
def f24 : Fn := ⟨2, 4, b24⟩
def b25x1 : CSs := .cons (.expr (.meth 1 "append" (.var 3) (.cons (.op .tup (.cons (.op (.add true) (.cons (.const (.int 1)) (.cons (.op (.call 22) (.cons (.var 0) (.cons (.op (.add true) (.cons (.op (.mul true) (.cons (.const (.int 2)) (.cons (.op .ix (.cons (.var 1) (.cons (.const (.int 0)) (.nil)))) (.nil)))) (.cons (.const (.int 2)) (.nil)))) (.nil)))) (.nil)))) (.cons (.op (.add true) (.cons (.const (.int 1)) (.cons (.op (.call 22) (.cons (.var 0) (.cons (.op (.call 23) (.cons (.var 0) (.cons (.op (.lst true) (.cons (.const (.int 1)) (.cons (.const (.int 1)) (.cons (.const (.int 4)) (.nil))))) (.nil)))) (.nil)))) (.nil)))) (.nil)))) (.nil)))) .nil
def b25t2 : CSs := .cons (.ret (.op .tupOf (.cons (.var 3) (.nil)))) .nil
def b25t1 : CSs := .cons (.fors (.name 4) (.range (.cons (.op (.add true) (.cons (.const (.int 1)) (.cons (.op (.call 22) (.cons (.var 0) (.cons (.var 2) (.nil)))) (.nil)))) (.nil))) b25x1) b25t2
/-- _law_cl_rows(dice, scale, most, found, turn) -/
def b25 : CSs := .cons (.assign (.name 3) (.op (.lst false) .nil)) b25t1
def f25 : Fn := ⟨3, 5, b25⟩
def b26x1 : CSs := .cons (.assign (.name 1) (.op (.add true) (.cons (.var 1) (.cons (.op (.mul true) (.cons (.op (.lst true) (.cons (.var 2) (.nil))) (.cons (.var 3) (.nil)))) (.nil))))) .nil
def b26t2 : CSs := .cons (.ret (.var 1)) .nil
def b26t1 : CSs := .cons (.fors (.tup [(.name 2), (.name 3)]) (.over (.var 0)) b26x1) b26t2
/-- _law_cl_rooms(rows, found, room, times) -/
def b26 : CSs := .cons (.assign (.name 1) (.op (.lst true) .nil)) b26t1
def f26 : Fn := ⟨1, 4, b26⟩
def b27x2 : CSs := .cons (.setIx (.var 1) (.op .neg (.cons (.const (.int 1)) (.nil))) (.op .tup (.cons (.var 2) (.cons (.op (.add true) (.cons (.op .ix (.cons (.op .ix (.cons (.var 1) (.cons (.op .neg (.cons (.const (.int 1)) (.nil))) (.nil)))) (.cons (.const (.int 1)) (.nil)))) (.cons (.var 3) (.nil)))) (.nil))))) .nil
def b27x3 : CSs := .cons (.expr (.meth 1 "append" (.var 1) (.cons (.op .tup (.cons (.var 2) (.cons (.var 3) (.nil)))) (.nil)))) .nil
def b27x1 : CSs := .cons (.ifs (.andE (.op .ne (.cons (.var 1) (.cons (.op (.lst true) .nil) (.nil)))) (.op .eq (.cons (.op .ix (.cons (.op .ix (.cons (.var 1) (.cons (.op .neg (.cons (.const (.int 1)) (.nil))) (.nil)))) (.cons (.const (.int 0)) (.nil)))) (.cons (.var 2) (.nil))))) b27x2 b27x3) .nil
def b27t2 : CSs := .cons (.ret (.op .tupOf (.cons (.var 1) (.nil)))) .nil
def b27t1 : CSs := .cons (.fors (.tup [(.name 2), (.name 3)]) (.over (.var 0)) b27x1) b27t2
/-- _law_cl_lean(rows, found, room, times) -/
def b27 : CSs := .cons (.assign (.name 1) (.op (.lst false) .nil)) b27t1
def f27 : Fn := ⟨1, 4, b27⟩
/-- _law_cl_places(scale, rooms, size, room) -/
def b28 : CSs := .cons (.ret (.lc true [2] (.name 2) (.over (.var 0)) .nil (.op .sum (.cons (.lc true [3] (.name 3) (.over (.var 1)) .nil (.op .fdiv (.cons (.var 3) (.cons (.var 2) (.nil))))) (.nil))))) .nil
def f28 : Fn := ⟨2, 4, b28⟩
/-- _law_rows(rooms, room) -/
def b29 : CSs := .cons (.ret (.op (.call 27) (.cons (.op .tupOf (.cons (.lc true [1] (.name 1) (.over (.var 0)) .nil (.op .tup (.cons (.var 1) (.cons (.const (.int 1)) (.nil))))) (.nil))) (.nil)))) .nil
def f29 : Fn := ⟨1, 2, b29⟩
def b30x1 : CSs := .cons (.ret (.const (.bl false))) .nil
def b30x2 : CSs := .cons (.ret (.const (.bl false))) .nil
def b30x3 : CSs := .cons (.ret (.const (.bl false))) .nil
def b30x4 : CSs := .cons (.ret (.const (.bl false))) .nil
def b30x5 : CSs := .cons (.ret (.const (.bl false))) .nil
def b30x6 : CSs := .cons (.ret (.const (.bl false))) .nil
def b30x7 : CSs := .cons (.ret (.const (.bl false))) .nil
def b30x8 : CSs := .cons (.ret (.const (.bl false))) .nil
def b30x11 : CSs := .cons (.ret (.const (.bl false))) .nil
def b30x10 : CSs := .cons (.ifs (.op .ne (.cons (.op (.call 20) (.cons (.var 4) (.cons (.op (.add true) (.cons (.var 9) (.cons (.var 12) (.nil)))) (.nil)))) (.cons (.op .tup (.cons (.var 10) (.cons (.var 12) (.nil)))) (.nil)))) b30x11 .nil) .nil
def b30x9t1 : CSs := .cons (.assign (.name 9) (.op (.add true) (.cons (.var 9) (.cons (.var 11) (.nil))))) .nil
def b30x9 : CSs := .cons (.fors (.name 12) (.over (.op .tup (.cons (.const (.int 0)) (.cons (.op .sub (.cons (.var 11) (.cons (.const (.int 1)) (.nil)))) (.cons (.op (.call 22) (.cons (.var 0) (.cons (.var 11) (.nil)))) (.nil)))))) b30x10) b30x9t1
def b30x12 : CSs := .cons (.ret (.const (.bl false))) .nil
def b30t18 : CSs := .cons (.ret (.op .eq (.cons (.op .eq (.cons (.op (.new 1) (.cons (.op (.call 29) (.cons (.op (.back true) (.cons (.var 5) (.nil))) (.nil))) (.nil))) (.cons (.var 4) (.nil)))) (.cons (.op .eq (.cons (.op (.back true) (.cons (.var 5) (.nil))) (.cons (.var 5) (.nil)))) (.nil))))) .nil
def b30t17 : CSs := .cons (.ifs (.orE (.op .ne (.cons (.op (.new 1) (.cons (.var 13) (.nil))) (.cons (.var 4) (.nil)))) (.orE (.op .eq (.cons (.var 4) (.cons (.op (.new 1) (.cons (.op (.add true) (.cons (.var 3) (.cons (.op .tup (.cons (.op .tup (.cons (.const (.int 1)) (.cons (.const (.int 1)) (.nil)))) (.nil))) (.nil)))) (.nil))) (.nil)))) (.op .eq (.cons (.var 4) (.cons (.var 3) (.nil)))))) b30x12 .nil) b30t18
def b30t16 : CSs := .cons (.assign (.name 13) (.op .tupOf (.cons (.lc true [11] (.name 11) (.over (.var 5)) .nil (.op .tup (.cons (.var 11) (.cons (.const (.int 1)) (.nil))))) (.nil)))) b30t17
def b30t15 : CSs := .cons (.fors (.tup [(.name 10), (.name 11)]) (.enum (.var 5)) b30x9) b30t16
def b30t14 : CSs := .cons (.assign (.name 9) (.const (.int 0))) b30t15
def b30t13 : CSs := .cons (.ifs (.op .ne (.cons (.op (.call 15) (.cons (.var 2) (.cons (.op (.call 19) (.cons (.var 4) (.cons (.op .ix (.cons (.var 1) (.cons (.op .neg (.cons (.const (.int 1)) (.nil))) (.nil)))) (.nil)))) (.nil)))) (.cons (.op (.call 15) (.cons (.var 2) (.cons (.var 4) (.nil)))) (.nil)))) b30x8 .nil) b30t14
def b30t12 : CSs := .cons (.ifs (.op .ne (.cons (.op (.attr "rows") (.cons (.op (.call 19) (.cons (.var 4) (.cons (.var 8) (.nil)))) (.nil))) (.cons (.op (.call 29) (.cons (.lc true [11] (.name 11) (.over (.var 5)) (.cons (.op .ge (.cons (.var 11) (.cons (.var 8) (.nil)))) (.nil)) (.op (.mul true) (.cons (.op .fdiv (.cons (.var 11) (.cons (.var 8) (.nil)))) (.cons (.var 8) (.nil))))) (.nil))) (.nil)))) b30x7 .nil) b30t13
def b30t11 : CSs := .cons (.assign (.name 8) (.op (.add true) (.cons (.const (.int 1)) (.cons (.op (.call 22) (.cons (.var 0) (.cons (.op (.add true) (.cons (.op .ix (.cons (.var 1) (.cons (.const (.int 0)) (.nil)))) (.cons (.const (.int 3)) (.nil)))) (.nil)))) (.nil))))) b30t12
def b30t10 : CSs := .cons (.ifs (.op .ne (.cons (.op (.attr "rows") (.cons (.op (.call 18) (.cons (.var 4) (.cons (.op (.new 1) (.cons (.var 7) (.nil))) (.nil)))) (.nil))) (.cons (.op (.call 29) (.cons (.op (.add true) (.cons (.var 5) (.cons (.op (.call 26) (.cons (.var 7) (.nil))) (.nil)))) (.nil))) (.nil)))) b30x6 .nil) b30t11
def b30t9 : CSs := .cons (.assign (.name 7) (.op (.call 25) (.cons (.var 0) (.cons (.var 1) (.cons (.const (.int 3)) (.nil)))))) b30t10
def b30t8 : CSs := .cons (.ifs (.op .ne (.cons (.op (.attr "rows") (.cons (.op (.call 17) (.cons (.var 4) (.cons (.var 6) (.nil)))) (.nil))) (.cons (.op (.call 29) (.cons (.op (.slice false true true) (.cons (.op (.back true) (.cons (.op (.sorted true) (.cons (.var 5) (.nil))) (.nil))) (.cons (.var 6) (.nil)))) (.nil))) (.nil)))) b30x5 .nil) b30t9
def b30t7 : CSs := .cons (.ifs (.op .ne (.cons (.op (.attr "rows") (.cons (.op (.call 16) (.cons (.var 4) (.cons (.var 6) (.nil)))) (.nil))) (.cons (.op (.call 29) (.cons (.op (.slice false true true) (.cons (.var 5) (.cons (.var 6) (.nil)))) (.nil))) (.nil)))) b30x4 .nil) b30t8
def b30t6 : CSs := .cons (.assign (.name 6) (.op (.call 22) (.cons (.var 0) (.cons (.op (.add true) (.cons (.op .len (.cons (.var 5) (.nil))) (.cons (.const (.int 1)) (.nil)))) (.nil))))) b30t7
def b30t5 : CSs := .cons (.ifs (.op .ne (.cons (.op (.call 15) (.cons (.var 2) (.cons (.var 4) (.nil)))) (.cons (.op .tupOf (.cons (.op (.call 28) (.cons (.var 1) (.cons (.var 5) (.nil)))) (.nil))) (.nil)))) b30x3 .nil) b30t6
def b30t4 : CSs := .cons (.ifs (.orE (.op .ne (.cons (.lc true [10] (.name 10) (.range (.cons (.op .len (.cons (.var 5) (.nil))) (.nil))) .nil (.meth 2 "room_of" (.var 4) (.cons (.var 10) (.nil)))) (.cons (.var 5) (.nil)))) (.op .isnot (.cons (.op (.call 14) (.cons (.var 3) (.nil))) (.cons (.const (.bl true)) (.nil))))) b30x2 .nil) b30t5
def b30t3 : CSs := .cons (.ifs (.orE (.op .ne (.cons (.op (.attr "rows") (.cons (.var 4) (.nil))) (.cons (.op (.call 27) (.cons (.var 3) (.nil))) (.nil)))) (.orE (.op .ne (.cons (.op (.attr "holds") (.cons (.var 4) (.nil))) (.cons (.op .len (.cons (.var 5) (.nil))) (.nil)))) (.op .ne (.cons (.op (.attr "room") (.cons (.var 4) (.nil))) (.cons (.op .sum (.cons (.var 5) (.nil))) (.nil)))))) b30x1 .nil) b30t4
def b30t2 : CSs := .cons (.assign (.tup [(.name 4), (.name 5)]) (.op .tup (.cons (.op (.new 1) (.cons (.var 3) (.nil))) (.cons (.op (.call 26) (.cons (.var 3) (.nil))) (.nil))))) b30t3
def b30t1 : CSs := .cons (.par [2, 3] (.cons (.op (.new 0) (.cons (.var 1) (.nil))) (.cons (.op (.call 25) (.cons (.var 0) (.cons (.var 1) (.cons (.const (.int 5)) (.nil))))) (.nil)))) b30t2
/-- _law_right(dice, sizes, scale, rows, stock, rooms, many, other, size, ends, index, room, place, split) -/
def b30 : CSs := .cons (.assign (.name 1) (.op (.call 24) (.cons (.var 0) (.cons (.const (.int 4)) (.nil))))) b30t1
def f30 : Fn := ⟨1, 14, b30⟩
def b31x1t1 : CSs := .cons (.expr (.meth 1 "append" (.var 3) (.cons (.op .tup (.cons (.var 5) (.cons (.op (.add true) (.cons (.const (.int 1)) (.cons (.op (.call 22) (.cons (.var 0) (.cons (.op (.call 23) (.cons (.var 0) (.cons (.op (.lst true) (.cons (.const (.int 3)) (.cons (.op .pow (.cons (.const (.int 10)) (.cons (.const (.int 20)) (.nil)))) (.cons (.op .pow (.cons (.const (.int 10)) (.cons (.const (.int 28)) (.nil)))) (.nil))))) (.nil)))) (.nil)))) (.nil)))) (.nil)))) (.nil)))) .nil
def b31x1 : CSs := .cons (.assign (.name 5) (.op (.add true) (.cons (.const (.int 1)) (.cons (.op (.call 22) (.cons (.var 0) (.cons (.op (.call 23) (.cons (.var 0) (.cons (.op (.lst true) (.cons (.const (.int 100)) (.cons (.op .pow (.cons (.const (.int 10)) (.cons (.const (.int 22)) (.nil)))) (.cons (.op .pow (.cons (.const (.int 10)) (.cons (.const (.int 30)) (.nil)))) (.nil))))) (.nil)))) (.nil)))) (.nil))))) b31x1t1
def b31x2 : CSs := .cons (.ret (.const (.bl false))) .nil
def b31x3 : CSs := .cons (.ret (.const (.bl false))) .nil
def b31x6 : CSs := .cons (.ret (.const (.bl false))) .nil
def b31x7 : CSs := .cons (.ret (.const (.bl false))) .nil
def b31x5t1 : CSs := .cons (.ifs (.op .ne (.cons (.op (.call 20) (.cons (.var 6) (.cons (.op .sub (.cons (.op (.add true) (.cons (.var 12) (.cons (.op (.mul true) (.cons (.op (.add true) (.cons (.op .sub (.cons (.var 10) (.cons (.var 11) (.nil)))) (.cons (.const (.int 1)) (.nil)))) (.cons (.var 5) (.nil)))) (.nil)))) (.cons (.const (.int 1)) (.nil)))) (.nil)))) (.cons (.op .tup (.cons (.var 10) (.cons (.op .sub (.cons (.var 5) (.cons (.const (.int 1)) (.nil)))) (.nil)))) (.nil)))) b31x7 .nil) .nil
def b31x5 : CSs := .cons (.ifs (.orE (.op .ne (.cons (.meth 2 "room_of" (.var 6) (.cons (.var 10) (.nil))) (.cons (.var 5) (.nil)))) (.op .ne (.cons (.op (.call 20) (.cons (.var 6) (.cons (.op (.add true) (.cons (.var 12) (.cons (.op (.mul true) (.cons (.op .sub (.cons (.var 10) (.cons (.var 11) (.nil)))) (.cons (.var 5) (.nil)))) (.nil)))) (.nil)))) (.cons (.op .tup (.cons (.var 10) (.cons (.const (.int 0)) (.nil)))) (.nil))))) b31x6 .nil) b31x5t1
def b31x4t1 : CSs := .cons (.par [11, 12] (.cons (.op (.add true) (.cons (.var 11) (.cons (.var 13) (.nil)))) (.cons (.op (.add true) (.cons (.var 12) (.cons (.op (.mul true) (.cons (.var 5) (.cons (.var 13) (.nil)))) (.nil)))) (.nil)))) .nil
def b31x4 : CSs := .cons (.ifs (.chain .le .lt (.var 11) (.var 10) (.op (.add true) (.cons (.var 11) (.cons (.var 13) (.nil))))) b31x5 .nil) b31x4t1
def b31x8 : CSs := .cons (.ret (.const (.bl false))) .nil
def b31x9t1 : CSs := .cons (.asgG (.tup [(.name 16), (.ix (.var 8) (.const (.int 0)))]) (.op .tup (.cons (.op .sub (.cons (.var 16) (.cons (.var 17) (.nil)))) (.cons (.op .sub (.cons (.op .ix (.cons (.var 8) (.cons (.const (.int 0)) (.nil)))) (.cons (.op (.mul true) (.cons (.var 17) (.cons (.op .fdiv (.cons (.var 5) (.cons (.op .ix (.cons (.var 1) (.cons (.const (.int 0)) (.nil)))) (.nil)))) (.nil)))) (.nil)))) (.nil))))) .nil
def b31x9 : CSs := .cons (.assign (.name 17) (.op .min2 (.cons (.var 13) (.cons (.var 16) (.nil))))) b31x9t1
def b31t16 : CSs := .cons (.ret (.andE (.op .eq (.cons (.op (.add true) (.cons (.op .ix (.cons (.op (.call 15) (.cons (.var 2) (.cons (.var 15) (.nil)))) (.cons (.const (.int 0)) (.nil)))) (.cons (.op .ix (.cons (.var 8) (.cons (.const (.int 0)) (.nil)))) (.nil)))) (.cons (.op .ix (.cons (.op (.call 15) (.cons (.var 2) (.cons (.var 6) (.nil)))) (.cons (.const (.int 0)) (.nil)))) (.nil)))) (.op .eq (.cons (.op (.attr "holds") (.cons (.var 6) (.nil))) (.cons (.var 9) (.nil)))))) .nil
def b31t15 : CSs := .cons (.fors (.tup [(.name 5), (.name 13)]) (.over (.op (.back true) (.cons (.op (.sorted true) (.cons (.var 3) (.nil))) (.nil)))) b31x9) b31t16
def b31t14 : CSs := .cons (.assign (.name 16) (.var 10)) b31t15
def b31t13 : CSs := .cons (.ifs (.orE (.op .ne (.cons (.op (.attr "holds") (.cons (.var 14) (.nil))) (.cons (.var 10) (.nil)))) (.orE (.op .ne (.cons (.op (.attr "holds") (.cons (.var 15) (.nil))) (.cons (.var 10) (.nil)))) (.op .gt (.cons (.op (.attr "room") (.cons (.var 14) (.nil))) (.cons (.op (.attr "room") (.cons (.var 15) (.nil))) (.nil)))))) b31x8 .nil) b31t14
def b31t12 : CSs := .cons (.assign (.name 15) (.op (.call 17) (.cons (.var 6) (.cons (.var 10) (.nil))))) b31t13
def b31t11 : CSs := .cons (.assign (.name 14) (.op (.call 16) (.cons (.var 6) (.cons (.var 10) (.nil))))) b31t12
def b31t10 : CSs := .cons (.fors (.tup [(.name 5), (.name 13)]) (.over (.var 3)) b31x4) b31t11
def b31t9 : CSs := .cons (.par [10, 11, 12] (.cons (.op (.call 22) (.cons (.var 0) (.cons (.var 9) (.nil)))) (.cons (.const (.int 0)) (.cons (.const (.int 0)) (.nil))))) b31t10
def b31t8 : CSs := .cons (.assign (.name 9) (.op .sum (.cons (.lc true [5, 13] (.tup [(.name 5), (.name 13)]) (.over (.var 3)) .nil (.var 13)) (.nil)))) b31t9
def b31t7 : CSs := .cons (.ifs (.op .ne (.cons (.op (.attr "room") (.cons (.var 6) (.nil))) (.cons (.op .sum (.cons (.lc true [5, 13] (.tup [(.name 5), (.name 13)]) (.over (.var 3)) .nil (.op (.mul true) (.cons (.var 5) (.cons (.var 13) (.nil))))) (.nil))) (.nil)))) b31x3 .nil) b31t8
def b31t6 : CSs := .cons (.ifs (.orE (.op .ne (.cons (.op (.attr "rows") (.cons (.var 6) (.nil))) (.cons (.var 7) (.nil)))) (.op .ne (.cons (.op (.call 15) (.cons (.var 2) (.cons (.var 6) (.nil)))) (.cons (.op .tupOf (.cons (.var 8) (.nil))) (.nil))))) b31x2 .nil) b31t7
def b31t5 : CSs := .cons (.assign (.name 8) (.lc false [18] (.name 18) (.over (.var 1)) .nil (.op .sum (.cons (.lc true [5, 13] (.tup [(.name 5), (.name 13)]) (.over (.var 3)) .nil (.op (.mul true) (.cons (.var 13) (.cons (.op .fdiv (.cons (.var 5) (.cons (.var 18) (.nil)))) (.nil))))) (.nil))))) b31t6
def b31t4 : CSs := .cons (.assign (.name 7) (.op (.call 27) (.cons (.op .tupOf (.cons (.var 3) (.nil))) (.nil)))) b31t5
def b31t3 : CSs := .cons (.assign (.name 6) (.op (.new 1) (.cons (.op .tupOf (.cons (.var 3) (.nil))) (.nil)))) b31t4
def b31t2 : CSs := .cons (.fors (.name 4) (.range (.cons (.op (.add true) (.cons (.const (.int 1)) (.cons (.op (.call 22) (.cons (.var 0) (.cons (.const (.int 5)) (.nil)))) (.nil)))) (.nil))) b31x1) b31t3
def b31t1 : CSs := .cons (.assign (.tup [(.name 2), (.name 3)]) (.op .tup (.cons (.op (.new 0) (.cons (.var 1) (.nil))) (.cons (.op (.lst false) .nil) (.nil))))) b31t2
/-- _law_far_right(dice, sizes, scale, rows, turn, room, stock, lean_v, due, total, index, before, line, times, first, greatest, left, now, size) -/
def b31 : CSs := .cons (.assign (.name 1) (.op .tup (.cons (.op .pow (.cons (.const (.int 10)) (.cons (.const (.int 25)) (.nil)))) (.cons (.op .pow (.cons (.const (.int 10)) (.cons (.const (.int 20)) (.nil)))) (.cons (.const (.int 1)) (.nil)))))) b31t1
def f31 : Fn := ⟨1, 19, b31⟩
def b32x2 : CSs := .cons (.ret (.const (.bl false))) .nil
def b32x1t1 : CSs := .cons (.ifs (.orE (.op .not (.cons (.op (.call 30) (.cons (.var 2) (.nil))) (.nil))) (.orE (.op .not (.cons (.op (.call 30) (.cons (.var 2) (.nil))) (.nil))) (.op .not (.cons (.op (.call 31) (.cons (.var 2) (.nil))) (.nil))))) b32x2 .nil) .nil
def b32x1 : CSs := .cons (.assign (.name 2) (.op (.call 21) (.cons (.var 0) (.cons (.var 1) (.nil))))) b32x1t1
def b32x3 : CSs := .cons (.ret (.const (.bl false))) .nil
def b32t3 : CSs := .cons (.ret (.andE (.op .eq (.cons (.op (.attr "rows") (.cons (.op (.call 19) (.cons (.op (.new 1) (.cons (.op .tup (.cons (.op .tup (.cons (.const (.int 7)) (.cons (.const (.int 2)) (.nil)))) (.cons (.op .tup (.cons (.const (.int 10)) (.cons (.const (.int 1)) (.nil)))) (.nil)))) (.nil))) (.cons (.const (.int 8)) (.nil)))) (.nil))) (.cons (.op .tup (.cons (.op .tup (.cons (.const (.int 8)) (.cons (.const (.int 1)) (.nil)))) (.nil))) (.nil)))) (.op .eq (.cons (.op (.call 17) (.cons (.var 3) (.cons (.const (.int 0)) (.nil)))) (.cons (.var 3) (.nil)))))) .nil
def b32t2 : CSs := .cons (.ifs (.orE (.op .ne (.cons (.op .tup (.cons (.op (.attr "rows") (.cons (.var 3) (.nil))) (.cons (.op (.attr "holds") (.cons (.var 3) (.nil))) (.cons (.op (.attr "room") (.cons (.var 3) (.nil))) (.nil))))) (.cons (.op .tup (.cons (.op .tup .nil) (.cons (.const (.int 0)) (.cons (.const (.int 0)) (.nil))))) (.nil)))) (.op .ne (.cons (.op (.call 15) (.cons (.op (.new 0) (.cons (.op .tup (.cons (.const (.int 6)) (.cons (.const (.int 3)) (.cons (.const (.int 1)) (.nil))))) (.nil))) (.cons (.var 3) (.nil)))) (.cons (.op .tup (.cons (.const (.int 0)) (.cons (.const (.int 0)) (.cons (.const (.int 0)) (.nil))))) (.nil))))) b32x3 .nil) b32t3
def b32t1 : CSs := .cons (.assign (.name 3) (.op (.new 1) (.cons (.op .tup .nil) (.nil)))) b32t2
/-- law(script, spot, dice, empty) -/
def b32 : CSs := .cons (.fors (.name 1) (.range (.cons (.op .max2 (.cons (.const (.int 1)) (.cons (.op .min2 (.cons (.const (.int 5)) (.cons (.op .len (.cons (.var 0) (.nil))) (.nil)))) (.nil)))) (.nil))) b32x1) b32t1
def f32 : Fn := ⟨1, 4, b32⟩
def b33x1 : CSs := .cons .bad .nil
def b33t1 : CSs := .cons (.setAttr (.var 0) "own_sizes" (.var 1)) .nil
/-- Scale.__init__(self, sizes) -/
def b33 : CSs := .cons (.ifs (.op .not (.cons (.op (.call 2) (.cons (.var 1) (.nil))) (.nil))) b33x1 .nil) b33t1
def f33 : Fn := ⟨2, 2, b33⟩
/-- Scale.sizes(self) -/
def b34 : CSs := .cons (.ret (.op (.attr "own_sizes") (.cons (.var 0) (.nil)))) .nil
def f34 : Fn := ⟨1, 1, b34⟩
/-- Scale.__eq__(self, other) -/
def b35 : CSs := .cons (.ret (.andE (.op (.isC 0) (.cons (.var 1) (.nil))) (.op .eq (.cons (.op (.attr "own_sizes") (.cons (.var 0) (.nil))) (.cons (.op (.attr "own_sizes") (.cons (.var 1) (.nil))) (.nil)))))) .nil
def f35 : Fn := ⟨2, 2, b35⟩
/-- Scale.__ne__(self, other) -/
def b36 : CSs := .cons (.ret (.op .not (.cons (.op .eq (.cons (.var 0) (.cons (.var 1) (.nil)))) (.nil)))) .nil
def f36 : Fn := ⟨2, 2, b36⟩
def b37x1 : CSs := .cons .bad .nil
def b37t1 : CSs := .cons (.setAttr (.var 0) "own_rows" (.op (.call 8) (.cons (.var 1) (.nil)))) .nil
/-- Stock.__init__(self, rows) -/
def b37 : CSs := .cons (.ifs (.op .not (.cons (.op (.call 7) (.cons (.var 1) (.nil))) (.nil))) b37x1 .nil) b37t1
def f37 : Fn := ⟨2, 2, b37⟩
/-- Stock.rows(self) -/
def b38 : CSs := .cons (.ret (.op (.attr "own_rows") (.cons (.var 0) (.nil)))) .nil
def f38 : Fn := ⟨1, 1, b38⟩
/-- Stock.holds(self) -/
def b39 : CSs := .cons (.ret (.op (.call 5) (.cons (.op (.attr "own_rows") (.cons (.var 0) (.nil))) (.nil)))) .nil
def f39 : Fn := ⟨1, 1, b39⟩
/-- Stock.room(self) -/
def b40 : CSs := .cons (.ret (.op (.call 6) (.cons (.op (.attr "own_rows") (.cons (.var 0) (.nil))) (.nil)))) .nil
def f40 : Fn := ⟨1, 1, b40⟩
def b41x2 : CSs := .cons (.ret (.var 2)) .nil
def b41x1t1 : CSs := .cons (.aug 1 .sub (.var 3)) .nil
def b41x1 : CSs := .cons (.ifs (.op .lt (.cons (.var 1) (.cons (.var 3) (.nil)))) b41x2 .nil) b41x1t1
def b41t2 : CSs := .cons (.ret (.const (.int 0))) .nil
def b41t1 : CSs := .cons (.fors (.tup [(.name 2), (.name 3)]) (.over (.op (.attr "own_rows") (.cons (.var 0) (.nil)))) b41x1) b41t2
/-- Stock.room_of(self, index, room, times) -/
def b41 : CSs := .cons (.expr (.op (.call 12) (.cons (.var 0) (.cons (.var 1) (.nil))))) b41t1
def f41 : Fn := ⟨2, 4, b41⟩
/-- Stock.__eq__(self, other) -/
def b42 : CSs := .cons (.ret (.andE (.op (.isC 1) (.cons (.var 1) (.nil))) (.op .eq (.cons (.op (.attr "own_rows") (.cons (.var 0) (.nil))) (.cons (.op (.attr "own_rows") (.cons (.var 1) (.nil))) (.nil)))))) .nil
def f42 : Fn := ⟨2, 2, b42⟩
/-- Stock.__ne__(self, other) -/
def b43 : CSs := .cons (.ret (.op .not (.cons (.op .eq (.cons (.var 0) (.cons (.var 1) (.nil)))) (.nil)))) .nil
def f43 : Fn := ⟨2, 2, b43⟩
def funs : List Fn := [f0, f1, f2, f3, f4, f5, f6, f7, f8, f9, f10, f11, f12, f13, f14, f15, f16, f17, f18, f19, f20, f21, f22, f23, f24, f25, f26, f27, f28, f29, f30, f31, f32, f33, f34, f35, f36, f37, f38, f39, f40, f41, f42, f43]
def cs : List (PySem.Str × D) := [("MOST_SIZE", .int 1000000000000000000000000000000000000000000000000000000000000), ("MOST_LEVELS", .int 40), ("MOST_ROWS", .int 200), ("MOST_ROOM", .int 1000000000000000000000000000000000000000000000000000000000000), ("MOST_HOLDS", .int 1000000000000000000000000000000000000000000000000000000000000)]
/-- Scale -/
def cl0 : Cl := ⟨["own_sizes"], 33, [("__eq__", 35), ("__ne__", 36)], [("sizes", 34)], true⟩
/-- Stock -/
def cl1 : Cl := ⟨["own_rows"], 37, [("room_of", 41), ("__eq__", 42), ("__ne__", 43)], [("rows", 38), ("holds", 39), ("room", 40)], true⟩
def cls : List Cl := [cl0, cl1]
def P : Prg := ⟨funs, cls, cs.map (·.2)⟩
def li : Nat := 32
theorem u0 (k : Nat) (a0 : D) (m : Mem) : callN P (k+1) 0 [a0] m = retOf m (semSs P (callN P k) b0 [some a0] m) := rfl
theorem u1 (k : Nat) (a0 a1 a2 : D) (m : Mem) : callN P (k+1) 1 [a0, a1, a2] m = retOf m (semSs P (callN P k) b1 [some a0, some a1, some a2] m) := rfl
theorem u2 (k : Nat) (a0 : D) (m : Mem) : callN P (k+1) 2 [a0] m = retOf m (semSs P (callN P k) b2 [some a0, none, none] m) := rfl
theorem u3 (k : Nat) (a0 : D) (m : Mem) : callN P (k+1) 3 [a0] m = retOf m (semSs P (callN P k) b3 [some a0] m) := rfl
theorem u4 (k : Nat) (a0 : D) (m : Mem) : callN P (k+1) 4 [a0] m = retOf m (semSs P (callN P k) b4 [some a0] m) := rfl
theorem u5 (k : Nat) (a0 : D) (m : Mem) : callN P (k+1) 5 [a0] m = retOf m (semSs P (callN P k) b5 [some a0, none, none] m) := rfl
theorem u6 (k : Nat) (a0 : D) (m : Mem) : callN P (k+1) 6 [a0] m = retOf m (semSs P (callN P k) b6 [some a0, none, none] m) := rfl
theorem u7 (k : Nat) (a0 : D) (m : Mem) : callN P (k+1) 7 [a0] m = retOf m (semSs P (callN P k) b7 [some a0, none] m) := rfl
theorem u8 (k : Nat) (a0 : D) (m : Mem) : callN P (k+1) 8 [a0] m = retOf m (semSs P (callN P k) b8 [some a0, none, none, none] m) := rfl
theorem u9 (k : Nat) (a0 a1 : D) (m : Mem) : callN P (k+1) 9 [a0, a1] m = retOf m (semSs P (callN P k) b9 [some a0, some a1, none, none, none, none] m) := rfl
theorem u10 (k : Nat) (a0 a1 : D) (m : Mem) : callN P (k+1) 10 [a0, a1] m = retOf m (semSs P (callN P k) b10 [some a0, some a1, none, none, none] m) := rfl
theorem u11 (k : Nat) (a0 : D) (m : Mem) : callN P (k+1) 11 [a0] m = retOf m (semSs P (callN P k) b11 [some a0] m) := rfl
theorem u12 (k : Nat) (a0 a1 : D) (m : Mem) : callN P (k+1) 12 [a0, a1] m = retOf m (semSs P (callN P k) b12 [some a0, some a1] m) := rfl
theorem u13 (k : Nat) (a0 a1 : D) (m : Mem) : callN P (k+1) 13 [a0, a1] m = retOf m (semSs P (callN P k) b13 [some a0, some a1] m) := rfl
theorem u14 (k : Nat) (a0 : D) (m : Mem) : callN P (k+1) 14 [a0] m = retOf m (semSs P (callN P k) b14 [some a0] m) := rfl
theorem u15 (k : Nat) (a0 a1 : D) (m : Mem) : callN P (k+1) 15 [a0, a1] m = retOf m (semSs P (callN P k) b15 [some a0, some a1] m) := rfl
theorem u16 (k : Nat) (a0 a1 : D) (m : Mem) : callN P (k+1) 16 [a0, a1] m = retOf m (semSs P (callN P k) b16 [some a0, some a1] m) := rfl
theorem u17 (k : Nat) (a0 a1 : D) (m : Mem) : callN P (k+1) 17 [a0, a1] m = retOf m (semSs P (callN P k) b17 [some a0, some a1] m) := rfl
theorem u18 (k : Nat) (a0 a1 : D) (m : Mem) : callN P (k+1) 18 [a0, a1] m = retOf m (semSs P (callN P k) b18 [some a0, some a1, none] m) := rfl
theorem u19 (k : Nat) (a0 a1 : D) (m : Mem) : callN P (k+1) 19 [a0, a1] m = retOf m (semSs P (callN P k) b19 [some a0, some a1, none, none] m) := rfl
theorem u20 (k : Nat) (a0 a1 : D) (m : Mem) : callN P (k+1) 20 [a0, a1] m = retOf m (semSs P (callN P k) b20 [some a0, some a1, none, none, none] m) := rfl
theorem u21 (k : Nat) (a0 a1 : D) (m : Mem) : callN P (k+1) 21 [a0, a1] m = retOf m (semSs P (callN P k) b21 [some a0, some a1, none, none, none] m) := rfl
theorem u22 (k : Nat) (a0 a1 : D) (m : Mem) : callN P (k+1) 22 [a0, a1] m = retOf m (semSs P (callN P k) b22 [some a0, some a1, none, none, none] m) := rfl
theorem u23 (k : Nat) (a0 a1 : D) (m : Mem) : callN P (k+1) 23 [a0, a1] m = retOf m (semSs P (callN P k) b23 [some a0, some a1] m) := rfl
theorem u24 (k : Nat) (a0 a1 : D) (m : Mem) : callN P (k+1) 24 [a0, a1] m = retOf m (semSs P (callN P k) b24 [some a0, some a1, none, none] m) := rfl
theorem u25 (k : Nat) (a0 a1 a2 : D) (m : Mem) : callN P (k+1) 25 [a0, a1, a2] m = retOf m (semSs P (callN P k) b25 [some a0, some a1, some a2, none, none] m) := rfl
theorem u26 (k : Nat) (a0 : D) (m : Mem) : callN P (k+1) 26 [a0] m = retOf m (semSs P (callN P k) b26 [some a0, none, none, none] m) := rfl
theorem u27 (k : Nat) (a0 : D) (m : Mem) : callN P (k+1) 27 [a0] m = retOf m (semSs P (callN P k) b27 [some a0, none, none, none] m) := rfl
theorem u28 (k : Nat) (a0 a1 : D) (m : Mem) : callN P (k+1) 28 [a0, a1] m = retOf m (semSs P (callN P k) b28 [some a0, some a1, none, none] m) := rfl
theorem u29 (k : Nat) (a0 : D) (m : Mem) : callN P (k+1) 29 [a0] m = retOf m (semSs P (callN P k) b29 [some a0, none] m) := rfl
theorem u30 (k : Nat) (a0 : D) (m : Mem) : callN P (k+1) 30 [a0] m = retOf m (semSs P (callN P k) b30 [some a0, none, none, none, none, none, none, none, none, none, none, none, none, none] m) := rfl
theorem u31 (k : Nat) (a0 : D) (m : Mem) : callN P (k+1) 31 [a0] m = retOf m (semSs P (callN P k) b31 [some a0, none, none, none, none, none, none, none, none, none, none, none, none, none, none, none, none, none, none] m) := rfl
theorem u32 (k : Nat) (a0 : D) (m : Mem) : callN P (k+1) 32 [a0] m = retOf m (semSs P (callN P k) b32 [some a0, none, none, none] m) := rfl
theorem u33 (k : Nat) (a0 a1 : D) (m : Mem) : callN P (k+1) 33 [a0, a1] m = retOf m (semSs P (callN P k) b33 [some a0, some a1] m) := rfl
theorem u34 (k : Nat) (a0 : D) (m : Mem) : callN P (k+1) 34 [a0] m = retOf m (semSs P (callN P k) b34 [some a0] m) := rfl
theorem u35 (k : Nat) (a0 a1 : D) (m : Mem) : callN P (k+1) 35 [a0, a1] m = retOf m (semSs P (callN P k) b35 [some a0, some a1] m) := rfl
theorem u36 (k : Nat) (a0 a1 : D) (m : Mem) : callN P (k+1) 36 [a0, a1] m = retOf m (semSs P (callN P k) b36 [some a0, some a1] m) := rfl
theorem u37 (k : Nat) (a0 a1 : D) (m : Mem) : callN P (k+1) 37 [a0, a1] m = retOf m (semSs P (callN P k) b37 [some a0, some a1] m) := rfl
theorem u38 (k : Nat) (a0 : D) (m : Mem) : callN P (k+1) 38 [a0] m = retOf m (semSs P (callN P k) b38 [some a0] m) := rfl
theorem u39 (k : Nat) (a0 : D) (m : Mem) : callN P (k+1) 39 [a0] m = retOf m (semSs P (callN P k) b39 [some a0] m) := rfl
theorem u40 (k : Nat) (a0 : D) (m : Mem) : callN P (k+1) 40 [a0] m = retOf m (semSs P (callN P k) b40 [some a0] m) := rfl
theorem u41 (k : Nat) (a0 a1 : D) (m : Mem) : callN P (k+1) 41 [a0, a1] m = retOf m (semSs P (callN P k) b41 [some a0, some a1, none, none] m) := rfl
theorem u42 (k : Nat) (a0 a1 : D) (m : Mem) : callN P (k+1) 42 [a0, a1] m = retOf m (semSs P (callN P k) b42 [some a0, some a1] m) := rfl
theorem u43 (k : Nat) (a0 a1 : D) (m : Mem) : callN P (k+1) 43 [a0, a1] m = retOf m (semSs P (callN P k) b43 [some a0, some a1] m) := rfl
theorem c0 : P.consts[0]? = some (.int 1000000000000000000000000000000000000000000000000000000000000) := rfl
theorem c1 : P.consts[1]? = some (.int 40) := rfl
theorem c2 : P.consts[2]? = some (.int 200) := rfl
theorem c3 : P.consts[3]? = some (.int 1000000000000000000000000000000000000000000000000000000000000) := rfl
theorem c4 : P.consts[4]? = some (.int 1000000000000000000000000000000000000000000000000000000000000) := rfl
theorem k0 : P.cls[0]? = some cl0 := rfl
theorem k1 : P.cls[1]? = some cl1 := rfl
end HT

namespace HT
open PySem PySem.Spec PyProof.Rows L2 Rf
abbrev Rw : PySem.W.OpenRow := PySem.W.OpenLaw.row PySem.Challenge.rw_carryloads_k16_whole_stocks
def top (i : Nat) : Stmt := Rw.prog.main.body.getD i (.Pass ⟨0, 0, 0, 0⟩)
def t0 : FnT := ftOf (.g "is_integer") ["value"] ["value"] "is_integer" "is_integer" (top 9)
def t1 : FnT := ftOf (.g "is_within") ["value", "low", "most"] ["value", "low", "most"] "is_within" "is_within" (top 10)
def t2 : FnT := ftOf (.g "are_sizes") ["value"] ["value", "one", "other"] "are_sizes" "are_sizes" (top 14)
def t3 : FnT := ftOf (.g "require_scale") ["scale"] ["scale"] "require_scale" "require_scale" (top 16)
def t4 : FnT := ftOf (.g "is_row") ["value"] ["value"] "is_row" "is_row" (top 21)
def t5 : FnT := ftOf (.g "holds_in") ["rows"] ["rows", "room", "times"] "holds_in" "holds_in" (top 22)
def t6 : FnT := ftOf (.g "room_in") ["rows"] ["rows", "room", "times"] "room_in" "room_in" (top 23)
def t7 : FnT := ftOf (.g "are_rows") ["value"] ["value", "one"] "are_rows" "are_rows" (top 24)
def t8 : FnT := ftOf (.g "lean") ["rows"] ["rows", "found", "room", "times"] "lean" "lean" (top 25)
def t9 : FnT := ftOf (.g "first_in") ["rows", "many"] ["rows", "many", "found", "room", "times", "here"] "first_in" "first_in" (top 26)
def t10 : FnT := ftOf (.g "places_in") ["sizes", "rows"] ["sizes", "rows", "size", "room", "times"] "places_in" "places_in" (top 27)
def t11 : FnT := ftOf (.g "require_stock") ["stock"] ["stock"] "require_stock" "require_stock" (top 29)
def t12 : FnT := ftOf (.g "require_index") ["stock", "index"] ["stock", "index"] "require_index" "require_index" (top 30)
def t13 : FnT := ftOf (.g "require_many") ["stock", "many"] ["stock", "many"] "require_many" "require_many" (top 31)
def t14 : FnT := ftOf (.g "is_stock") ["value"] ["value"] "is_stock" "is_stock" (top 32)
def t15 : FnT := ftOf (.g "places") ["scale", "stock"] ["scale", "stock"] "places" "places" (top 33)
def t16 : FnT := ftOf (.g "first_holds") ["stock", "many"] ["stock", "many"] "first_holds" "first_holds" (top 34)
def t17 : FnT := ftOf (.g "greatest_holds") ["stock", "many"] ["stock", "many"] "greatest_holds" "greatest_holds" (top 35)
def t18 : FnT := ftOf (.g "joined") ["one", "other"] ["one", "other", "rows"] "joined" "joined" (top 36)
def t19 : FnT := ftOf (.g "rounded") ["stock", "size"] ["stock", "size", "room", "times"] "rounded" "rounded" (top 37)
def t20 : FnT := ftOf (.g "hold_at") ["stock", "place"] ["stock", "place", "ahead", "room", "times"] "hold_at" "hold_at" (top 38)
def t21 : FnT := ftOf (.g "_law_dice") ["script", "spot"] ["script", "spot", "cell", "great", "seed"] "_law_dice" "_law_dice" (top 40)
def t22 : FnT := ftOf (.g "_law_roll") ["dice", "total"] ["dice", "total", "found", "one", "two"] "_law_roll" "_law_roll" (top 41)
def t23 : FnT := ftOf (.g "_law_pick") ["dice", "items"] ["dice", "items"] "_law_pick" "_law_pick" (top 42)
def t24 : FnT := ftOf (.g "_law_cl_scale") ["dice", "most"] ["dice", "most", "found", "turn"] "_law_cl_scale" "_law_cl_scale" (top 43)
def t25 : FnT := ftOf (.g "_law_cl_rows") ["dice", "scale", "most"] ["dice", "scale", "most", "found", "turn"] "_law_cl_rows" "_law_cl_rows" (top 44)
def t26 : FnT := ftOf (.g "_law_cl_rooms") ["rows"] ["rows", "found", "room", "times"] "_law_cl_rooms" "_law_cl_rooms" (top 45)
def t27 : FnT := ftOf (.g "_law_cl_lean") ["rows"] ["rows", "found", "room", "times"] "_law_cl_lean" "_law_cl_lean" (top 46)
def t28 : FnT := ftOf (.g "_law_cl_places") ["scale", "rooms"] ["scale", "rooms", "size", "room"] "_law_cl_places" "_law_cl_places" (top 47)
def t29 : FnT := ftOf (.g "_law_rows") ["rooms"] ["rooms", "room"] "_law_rows" "_law_rows" (top 48)
def t30 : FnT := ftOf (.g "_law_right") ["dice"] ["dice", "sizes", "scale", "rows", "stock", "rooms", "many", "other", "size", "ends", "index", "room", "place", "split"] "_law_right" "_law_right" (top 49)
def t31 : FnT := ftOf (.g "_law_far_right") ["dice"] ["dice", "sizes", "scale", "rows", "turn", "room", "stock", "lean_v", "due", "total", "index", "before", "line", "times", "first", "greatest", "left", "now", "size"] "_law_far_right" "_law_far_right" (top 50)
def t32 : FnT := ftOf (.g "law") ["script"] ["script", "spot", "dice", "empty"] "law" "law" (top 51)
def t33 : FnT := ftOf (.m "Scale" "__init__") ["self", "sizes"] ["self", "sizes"] "Scale.__init__" "__init__" (inCls (top 15) 1)
def t34 : FnT := ftOf (.p "Scale" "sizes") ["self"] ["self"] "Scale.sizes" "sizes" (inCls (top 15) 2)
def t35 : FnT := ftOf (.m "Scale" "__eq__") ["self", "other"] ["self", "other"] "Scale.__eq__" "__eq__" (inCls (top 15) 6)
def t36 : FnT := ftOf (.m "Scale" "__ne__") ["self", "other"] ["self", "other"] "Scale.__ne__" "__ne__" (inCls (top 15) 7)
def t37 : FnT := ftOf (.m "Stock" "__init__") ["self", "rows"] ["self", "rows"] "Stock.__init__" "__init__" (inCls (top 28) 1)
def t38 : FnT := ftOf (.p "Stock" "rows") ["self"] ["self"] "Stock.rows" "rows" (inCls (top 28) 2)
def t39 : FnT := ftOf (.p "Stock" "holds") ["self"] ["self"] "Stock.holds" "holds" (inCls (top 28) 3)
def t40 : FnT := ftOf (.p "Stock" "room") ["self"] ["self"] "Stock.room" "room" (inCls (top 28) 4)
def t41 : FnT := ftOf (.m "Stock" "room_of") ["self", "index"] ["self", "index", "room", "times"] "Stock.room_of" "room_of" (inCls (top 28) 5)
def t42 : FnT := ftOf (.m "Stock" "__eq__") ["self", "other"] ["self", "other"] "Stock.__eq__" "__eq__" (inCls (top 28) 6)
def t43 : FnT := ftOf (.m "Stock" "__ne__") ["self", "other"] ["self", "other"] "Stock.__ne__" "__ne__" (inCls (top 28) 7)
def Ts : List FnT := [t0, t1, t2, t3, t4, t5, t6, t7, t8, t9, t10, t11, t12, t13, t14, t15, t16, t17, t18, t19, t20, t21, t22, t23, t24, t25, t26, t27, t28, t29, t30, t31, t32, t33, t34, t35, t36, t37, t38, t39, t40, t41, t42, t43]
def fnames : List PySem.Str := (["is_integer", "is_within", "are_sizes", "require_scale", "is_row", "holds_in", "room_in", "are_rows", "lean", "first_in", "places_in", "require_stock", "require_index", "require_many", "is_stock", "places", "first_holds", "greatest_holds", "joined", "rounded"] : List PySem.Str) ++ (["hold_at", "_law_dice", "_law_roll", "_law_pick", "_law_cl_scale", "_law_cl_rows", "_law_cl_rooms", "_law_cl_lean", "_law_cl_places", "_law_rows", "_law_right", "_law_far_right", "law"] : List PySem.Str)
def cnames : List PySem.Str := ["Scale", "Stock"]
def fn : List He5.DefA := Ts.map dOf
def fa : List He.Fa := faOf fnames cnames cs
def ex (K : PySem.W.Frag) : Bool := clssB K (adOf Ts cnames K) cls.length 0 cls
abbrev hk : PySem.W.Hook := hookC 7 fa fn ex
def ob (s : PySem.W.SharedT) : He.AlD := obsCG 7 fa fn ex (HandSHeadRun.getT s)
theorem ob_eq (s : PySem.W.SharedT) : ob s = hk.obs s.abs := obsCG_eq (HandSHeadRun.getT_eq s)
def loose : List PySem.Str := (["_wall", "LoadError", "InvalidScale", "InvalidStock", "InvalidOperation", "InvalidCount", "TooMany", "is_integer", "is_within", "MOST_SIZE", "MOST_LEVELS", "are_sizes", "Scale", "require_scale", "MOST_ROWS", "MOST_ROOM", "MOST_HOLDS", "is_row", "holds_in", "room_in"] : List PySem.Str) ++ (["are_rows", "lean", "first_in", "places_in", "Stock", "require_stock", "require_index", "require_many", "is_stock", "places", "first_holds", "greatest_holds", "joined", "rounded", "hold_at", "_law_dice", "_law_roll", "_law_pick", "_law_cl_scale", "_law_cl_rows"] : List PySem.Str) ++ (["_law_cl_rooms", "_law_cl_lean", "_law_cl_places", "_law_rows", "_law_right", "_law_far_right"] : List PySem.Str)
theorem run (w : World) : HandSHeadRun.RunEq Rw (PySem.W.view Rw.prog [51]) hk ob 4000 loose w := by
  intro os
  kernel_rfl
theorem chk : ((funs.zip Ts).all fun p => chkFn (lkOf fnames cnames cs) p.1 p.2) = true := by kernel_rfl
theorem len : Ts.length = funs.length := by kernel_rfl
theorem bd0 : BindOk t0 := fun _ _ _ _ _ _ us hl => match us, hl with | [_], _ => by kernel_rfl
theorem bd1 : BindOk t1 := fun _ _ _ _ _ _ us hl => match us, hl with | [_, _, _], _ => by kernel_rfl
theorem bd2 : BindOk t2 := fun _ _ _ _ _ _ us hl => match us, hl with | [_], _ => by kernel_rfl
theorem bd3 : BindOk t3 := fun _ _ _ _ _ _ us hl => match us, hl with | [_], _ => by kernel_rfl
theorem bd4 : BindOk t4 := fun _ _ _ _ _ _ us hl => match us, hl with | [_], _ => by kernel_rfl
theorem bd5 : BindOk t5 := fun _ _ _ _ _ _ us hl => match us, hl with | [_], _ => by kernel_rfl
theorem bd6 : BindOk t6 := fun _ _ _ _ _ _ us hl => match us, hl with | [_], _ => by kernel_rfl
theorem bd7 : BindOk t7 := fun _ _ _ _ _ _ us hl => match us, hl with | [_], _ => by kernel_rfl
theorem bd8 : BindOk t8 := fun _ _ _ _ _ _ us hl => match us, hl with | [_], _ => by kernel_rfl
theorem bd9 : BindOk t9 := fun _ _ _ _ _ _ us hl => match us, hl with | [_, _], _ => by kernel_rfl
theorem bd10 : BindOk t10 := fun _ _ _ _ _ _ us hl => match us, hl with | [_, _], _ => by kernel_rfl
theorem bd11 : BindOk t11 := fun _ _ _ _ _ _ us hl => match us, hl with | [_], _ => by kernel_rfl
theorem bd12 : BindOk t12 := fun _ _ _ _ _ _ us hl => match us, hl with | [_, _], _ => by kernel_rfl
theorem bd13 : BindOk t13 := fun _ _ _ _ _ _ us hl => match us, hl with | [_, _], _ => by kernel_rfl
theorem bd14 : BindOk t14 := fun _ _ _ _ _ _ us hl => match us, hl with | [_], _ => by kernel_rfl
theorem bd15 : BindOk t15 := fun _ _ _ _ _ _ us hl => match us, hl with | [_, _], _ => by kernel_rfl
theorem bd16 : BindOk t16 := fun _ _ _ _ _ _ us hl => match us, hl with | [_, _], _ => by kernel_rfl
theorem bd17 : BindOk t17 := fun _ _ _ _ _ _ us hl => match us, hl with | [_, _], _ => by kernel_rfl
theorem bd18 : BindOk t18 := fun _ _ _ _ _ _ us hl => match us, hl with | [_, _], _ => by kernel_rfl
theorem bd19 : BindOk t19 := fun _ _ _ _ _ _ us hl => match us, hl with | [_, _], _ => by kernel_rfl
theorem bd20 : BindOk t20 := fun _ _ _ _ _ _ us hl => match us, hl with | [_, _], _ => by kernel_rfl
theorem bd21 : BindOk t21 := fun _ _ _ _ _ _ us hl => match us, hl with | [_, _], _ => by kernel_rfl
theorem bd22 : BindOk t22 := fun _ _ _ _ _ _ us hl => match us, hl with | [_, _], _ => by kernel_rfl
theorem bd23 : BindOk t23 := fun _ _ _ _ _ _ us hl => match us, hl with | [_, _], _ => by kernel_rfl
theorem bd24 : BindOk t24 := fun _ _ _ _ _ _ us hl => match us, hl with | [_, _], _ => by kernel_rfl
theorem bd25 : BindOk t25 := fun _ _ _ _ _ _ us hl => match us, hl with | [_, _, _], _ => by kernel_rfl
theorem bd26 : BindOk t26 := fun _ _ _ _ _ _ us hl => match us, hl with | [_], _ => by kernel_rfl
theorem bd27 : BindOk t27 := fun _ _ _ _ _ _ us hl => match us, hl with | [_], _ => by kernel_rfl
theorem bd28 : BindOk t28 := fun _ _ _ _ _ _ us hl => match us, hl with | [_, _], _ => by kernel_rfl
theorem bd29 : BindOk t29 := fun _ _ _ _ _ _ us hl => match us, hl with | [_], _ => by kernel_rfl
theorem bd30 : BindOk t30 := fun _ _ _ _ _ _ us hl => match us, hl with | [_], _ => by kernel_rfl
theorem bd31 : BindOk t31 := fun _ _ _ _ _ _ us hl => match us, hl with | [_], _ => by kernel_rfl
theorem bd32 : BindOk t32 := fun _ _ _ _ _ _ us hl => match us, hl with | [_], _ => by kernel_rfl
theorem bd33 : BindOk t33 := fun _ _ _ _ _ _ us hl => match us, hl with | [_, _], _ => by kernel_rfl
theorem bd34 : BindOk t34 := fun _ _ _ _ _ _ us hl => match us, hl with | [_], _ => by kernel_rfl
theorem bd35 : BindOk t35 := fun _ _ _ _ _ _ us hl => match us, hl with | [_, _], _ => by kernel_rfl
theorem bd36 : BindOk t36 := fun _ _ _ _ _ _ us hl => match us, hl with | [_, _], _ => by kernel_rfl
theorem bd37 : BindOk t37 := fun _ _ _ _ _ _ us hl => match us, hl with | [_, _], _ => by kernel_rfl
theorem bd38 : BindOk t38 := fun _ _ _ _ _ _ us hl => match us, hl with | [_], _ => by kernel_rfl
theorem bd39 : BindOk t39 := fun _ _ _ _ _ _ us hl => match us, hl with | [_], _ => by kernel_rfl
theorem bd40 : BindOk t40 := fun _ _ _ _ _ _ us hl => match us, hl with | [_], _ => by kernel_rfl
theorem bd41 : BindOk t41 := fun _ _ _ _ _ _ us hl => match us, hl with | [_, _], _ => by kernel_rfl
theorem bd42 : BindOk t42 := fun _ _ _ _ _ _ us hl => match us, hl with | [_, _], _ => by kernel_rfl
theorem bd43 : BindOk t43 := fun _ _ _ _ _ _ us hl => match us, hl with | [_, _], _ => by kernel_rfl
theorem binds : ∀ t ∈ Ts, BindOk t := List.forall_mem_cons.mpr ⟨bd0, List.forall_mem_cons.mpr ⟨bd1, List.forall_mem_cons.mpr ⟨bd2, List.forall_mem_cons.mpr ⟨bd3, List.forall_mem_cons.mpr ⟨bd4, List.forall_mem_cons.mpr ⟨bd5, List.forall_mem_cons.mpr ⟨bd6, List.forall_mem_cons.mpr ⟨bd7, List.forall_mem_cons.mpr ⟨bd8, List.forall_mem_cons.mpr ⟨bd9, List.forall_mem_cons.mpr ⟨bd10, List.forall_mem_cons.mpr ⟨bd11, List.forall_mem_cons.mpr ⟨bd12, List.forall_mem_cons.mpr ⟨bd13, List.forall_mem_cons.mpr ⟨bd14, List.forall_mem_cons.mpr ⟨bd15, List.forall_mem_cons.mpr ⟨bd16, List.forall_mem_cons.mpr ⟨bd17, List.forall_mem_cons.mpr ⟨bd18, List.forall_mem_cons.mpr ⟨bd19, List.forall_mem_cons.mpr ⟨bd20, List.forall_mem_cons.mpr ⟨bd21, List.forall_mem_cons.mpr ⟨bd22, List.forall_mem_cons.mpr ⟨bd23, List.forall_mem_cons.mpr ⟨bd24, List.forall_mem_cons.mpr ⟨bd25, List.forall_mem_cons.mpr ⟨bd26, List.forall_mem_cons.mpr ⟨bd27, List.forall_mem_cons.mpr ⟨bd28, List.forall_mem_cons.mpr ⟨bd29, List.forall_mem_cons.mpr ⟨bd30, List.forall_mem_cons.mpr ⟨bd31, List.forall_mem_cons.mpr ⟨bd32, List.forall_mem_cons.mpr ⟨bd33, List.forall_mem_cons.mpr ⟨bd34, List.forall_mem_cons.mpr ⟨bd35, List.forall_mem_cons.mpr ⟨bd36, List.forall_mem_cons.mpr ⟨bd37, List.forall_mem_cons.mpr ⟨bd38, List.forall_mem_cons.mpr ⟨bd39, List.forall_mem_cons.mpr ⟨bd40, List.forall_mem_cons.mpr ⟨bd41, List.forall_mem_cons.mpr ⟨bd42, List.forall_mem_cons.mpr ⟨bd43, fun _ h => by cases h⟩⟩⟩⟩⟩⟩⟩⟩⟩⟩⟩⟩⟩⟩⟩⟩⟩⟩⟩⟩⟩⟩⟩⟩⟩⟩⟩⟩⟩⟩⟩⟩⟩⟩⟩⟩⟩⟩⟩⟩⟩⟩⟩⟩
end HT

/-! rows of rooms and times, as lists of single rooms -/
namespace HT
open Rf
abbrev Rws := List (Int × Int)
def expand (rs : Rws) : List Int := (rs.map fun p => List.replicate p.2.toNat p.1).flatten
def Pos1 (rs : Rws) : Prop := ∀ p ∈ rs, 1 ≤ p.2
theorem expand_nil : expand [] = [] := rfl
theorem expand_cons (p : Int × Int) (rs : Rws) : expand (p :: rs) = List.replicate p.2.toNat p.1 ++ expand rs := rfl
theorem expand_app (a b : Rws) : expand (a ++ b) = expand a ++ expand b := by simp [expand]
/-- a row put behind a lean one -/
def leanS (found : Rws) (p : Int × Int) : Rws := match found.getLast? with
  | some q => if q.1 = p.1 then found.dropLast ++ [(p.1, q.2 + p.2)] else found ++ [p]
  | none => [p]
def leanR (rs : Rws) : Rws := rs.foldl leanS []
inductive Lean : Rws → Prop
  | nil : Lean []
  | one (p : Int × Int) : 1 ≤ p.2 → Lean [p]
  | snoc (a : Rws) (q p : Int × Int) : Lean (a ++ [q]) → q.1 ≠ p.1 → 1 ≤ p.2 → Lean (a ++ [q] ++ [p])
theorem snoc_cases (a : Rws) : a = [] ∨ ∃ b q, a = b ++ [q] := by
  rcases List.eq_nil_or_concat a with h | ⟨b, q, h⟩
  · exact .inl h
  · exact .inr ⟨b, q, by rw [h, List.concat_eq_append]⟩
theorem leanS_nil (p : Int × Int) : leanS [] p = [p] := rfl
theorem leanS_snoc (a : Rws) (q p : Int × Int) : leanS (a ++ [q]) p = if q.1 = p.1 then a ++ [(p.1, q.2 + p.2)] else a ++ [q] ++ [p] := by
  unfold leanS
  rw [List.getLast?_concat, List.dropLast_concat]
theorem Lean.pos {a : Rws} (h : Lean a) : Pos1 a := by
  induction h with
  | nil => intro p hp; cases hp
  | one p h => intro q hq; rw [List.mem_singleton] at hq; rw [hq]; exact h
  | snoc a q p _ _ h ih =>
    intro x hx
    rcases List.mem_append.mp hx with hx | hx
    · exact ih x hx
    · rw [List.mem_singleton] at hx; rw [hx]; exact h
theorem Lean.upd {a : Rws} {q : Int × Int} (h : Lean (a ++ [q])) {t : Int} (ht : 1 ≤ t) : Lean (a ++ [(q.1, t)]) := by
  rcases snoc_cases a with rfl | ⟨b, r, rfl⟩
  · exact .one _ ht
  · generalize e : b ++ [r] ++ [q] = w at h
    cases h with
    | nil => simp at e
    | one p _ =>
      have := congrArg List.length e
      simp at this
    | snoc a' q' p' h1 h2 h3 =>
      have e1 := List.append_inj' e rfl
      obtain ⟨e2, e3⟩ := e1
      have e4 := List.append_inj' e2 rfl
      obtain ⟨rfl, e5⟩ := e4
      cases e5; cases e3
      exact .snoc _ _ _ h1 h2 ht
theorem lean_step {found : Rws} (h : Lean found) {p : Int × Int} (hp : 1 ≤ p.2) : Lean (leanS found p) ∧ expand (leanS found p) = expand found ++ List.replicate p.2.toNat p.1 := by
  rcases snoc_cases found with rfl | ⟨a, q, rfl⟩
  · exact ⟨.one p hp, by simp [leanS_nil, expand]⟩
  · rw [leanS_snoc]
    have hq : 1 ≤ q.2 := h.pos q (by simp)
    by_cases e : q.1 = p.1
    · rw [if_pos e]
      refine ⟨?_, ?_⟩
      · rw [← e]
        exact h.upd (by omega)
      · rw [expand_app, expand_app, expand_cons, expand_cons, expand_nil, List.append_nil, List.append_nil, List.append_assoc, e, List.replicate_append_replicate]
        have : (q.2 + p.2).toNat = q.2.toNat + p.2.toNat := by omega
        rw [this]
    · rw [if_neg e]
      exact ⟨.snoc a q p h e hp, by rw [expand_app (a ++ [q]) [p], expand_cons, expand_nil, List.append_nil]⟩
theorem lean_fold : ∀ (rs found : Rws), Pos1 rs → Lean found → Lean (rs.foldl leanS found) ∧ expand (rs.foldl leanS found) = expand found ++ expand rs
  | [], found, _, h => ⟨h, by simp [expand]⟩
  | p :: rs, found, hp, h => by
    obtain ⟨h1, h2⟩ := lean_step h (hp p List.mem_cons_self)
    obtain ⟨h3, h4⟩ := lean_fold rs (leanS found p) (fun x hx => hp x (List.mem_cons_of_mem _ hx)) h1
    exact ⟨h3, by rw [List.foldl_cons, h4, h2, expand_cons, List.append_assoc]⟩
theorem leanR_lean {rs : Rws} (h : Pos1 rs) : Lean (leanR rs) := (lean_fold rs [] h .nil).1
theorem leanR_expand {rs : Rws} (h : Pos1 rs) : expand (leanR rs) = expand rs := (lean_fold rs [] h .nil).2
/-- the same rooms, the same lean row -/
theorem rep_inj {x : Int} : ∀ {n k : Nat} {a b : List Int}, List.replicate n x ++ a.reverse = List.replicate k x ++ b.reverse → (∀ y ∈ a.getLast?, y ≠ x) → (∀ y ∈ b.getLast?, y ≠ x) → n = k ∧ a = b
  | 0, 0, a, b, h, _, _ => by
    simp at h
    exact ⟨rfl, h⟩
  | n + 1, k + 1, a, b, h, ha, hb => by
    simp only [List.replicate_succ, List.cons_append, List.cons.injEq, true_and] at h
    obtain ⟨h1, h2⟩ := rep_inj h ha hb
    exact ⟨by omega, h2⟩
  | 0, k + 1, a, b, h, ha, hb => by
    simp only [List.replicate_zero, List.nil_append, List.replicate_succ, List.cons_append] at h
    have e : a.getLast? = some x := by
      have : a.reverse.head? = some x := by rw [h]; rfl
      rw [List.head?_reverse] at this
      exact this
    exact absurd rfl (ha x e)
  | n + 1, 0, a, b, h, ha, hb => by
    simp only [List.replicate_zero, List.nil_append, List.replicate_succ, List.cons_append] at h
    have e : b.getLast? = some x := by
      have : b.reverse.head? = some x := by rw [← h]; rfl
      rw [List.head?_reverse] at this
      exact this
    exact absurd rfl (hb x e)
theorem expand_last {a : Rws} {q : Int × Int} (h : 1 ≤ q.2) : (expand (a ++ [q])).getLast? = some q.1 := by
  rw [expand_app, expand_cons, expand_nil, List.append_nil]
  obtain ⟨n, hn⟩ : ∃ n, q.2.toNat = n + 1 := ⟨q.2.toNat - 1, by omega⟩
  rw [hn, List.replicate_succ', ← List.append_assoc, List.getLast?_concat]
theorem expand_rev (a : Rws) (p : Int × Int) : (expand (a ++ [p])).reverse = List.replicate p.2.toNat p.1 ++ (expand a).reverse := by
  rw [expand_app, expand_cons, expand_nil, List.append_nil, List.reverse_append, List.reverse_replicate]
/-- before its last row, a lean row ends on another room -/
theorem Lean.init {a : Rws} {p : Int × Int} (h : Lean (a ++ [p])) : Lean a ∧ 1 ≤ p.2 ∧ ∀ y ∈ (expand a).getLast?, y ≠ p.1 := by
  generalize e : a ++ [p] = w at h
  cases h with
  | nil => simp at e
  | one q hq =>
    have : a = [] ∧ p = q := by
      have := List.append_inj' (e.trans (List.nil_append [q]).symm) rfl
      simpa using this
    obtain ⟨rfl, rfl⟩ := this
    exact ⟨.nil, hq, fun y hy => by simp [expand] at hy⟩
  | snoc a' q' p' h1 h2 h3 =>
    obtain ⟨rfl, e2⟩ := List.append_inj' e rfl
    cases e2
    refine ⟨h1, h3, fun y hy => ?_⟩
    rw [expand_last (h1.pos q' (by simp))] at hy
    cases hy
    exact h2
theorem lean_uniq : ∀ (n : Nat) (a b : Rws), a.length ≤ n → Lean a → Lean b → expand a = expand b → a = b := by
  intro n
  induction n with
  | zero =>
    intro a b hl ha hb e
    have : a = [] := List.length_eq_zero_iff.mp (by omega)
    subst this
    rcases snoc_cases b with rfl | ⟨b', q, rfl⟩
    · rfl
    · have := expand_last (a := b') (hb.pos q (by simp))
      rw [← e] at this
      simp [expand] at this
  | succ n ih =>
    intro a b hl ha hb e
    rcases snoc_cases a with rfl | ⟨a', p, rfl⟩
    · rcases snoc_cases b with rfl | ⟨b', q, rfl⟩
      · rfl
      · have := expand_last (a := b') (hb.pos q (by simp))
        rw [← e] at this
        simp [expand] at this
    · rcases snoc_cases b with rfl | ⟨b', q, rfl⟩
      · have := expand_last (a := a') (ha.pos p (by simp))
        rw [e] at this
        simp [expand] at this
      · obtain ⟨ha1, ha2, ha3⟩ := ha.init
        obtain ⟨hb1, hb2, hb3⟩ := hb.init
        have l1 := expand_last (a := a') ha2
        have l2 := expand_last (a := b') hb2
        rw [e] at l1
        rw [l1] at l2
        cases p with
        | mk p1 p2 =>
        cases q with
        | mk q1 q2 =>
        simp only [Option.some.injEq] at l2
        subst l2
        have e' := congrArg List.reverse e
        rw [expand_rev, expand_rev] at e'
        obtain ⟨h1, h2⟩ := rep_inj e' ha3 hb3
        have : p2 = q2 := by dsimp only at h1 ha2 hb2; omega
        subst this
        rw [ih a' b' (by simp at hl; omega) ha1 hb1 h2]
/-- the rooms, one by one -/
def rle (xs : List Int) : Rws := leanR (xs.map fun x => (x, 1))
theorem pos_ones (xs : List Int) : Pos1 (xs.map fun x => (x, 1)) := by
  intro p hp
  obtain ⟨x, _, rfl⟩ := List.mem_map.mp hp
  exact Int.le_refl 1
theorem expand_one (x : Int) : List.replicate ((1 : Int)).toNat x = [x] := rfl
theorem expand_ones : ∀ xs : List Int, expand (xs.map fun x => (x, 1)) = xs
  | [] => rfl
  | x :: xs => by
    rw [List.map_cons, expand_cons, expand_ones xs]
    rfl
theorem rle_lean (xs : List Int) : Lean (rle xs) := leanR_lean (pos_ones xs)
theorem rle_expand (xs : List Int) : expand (rle xs) = xs := by
  unfold rle
  rw [leanR_expand (pos_ones xs), expand_ones]
theorem lean_eq {a b : Rws} (ha : Lean a) (hb : Lean b) (e : expand a = expand b) : a = b := lean_uniq a.length a b (Nat.le_refl _) ha hb e
theorem leanR_rle {rs : Rws} (h : Pos1 rs) : leanR rs = rle (expand rs) := lean_eq (leanR_lean h) (rle_lean _) (by rw [leanR_expand h, rle_expand])
theorem leanR_self {rs : Rws} (h : Lean rs) : leanR rs = rs := lean_eq (leanR_lean h.pos) h (leanR_expand h.pos)
theorem rle_inj {a b : List Int} : rle a = rle b ↔ a = b := ⟨fun h => by rw [← rle_expand a, h, rle_expand], fun h => by rw [h]⟩
theorem leanR_inj {a b : Rws} (ha : Pos1 a) (hb : Pos1 b) : leanR a = leanR b ↔ expand a = expand b := by rw [leanR_rle ha, leanR_rle hb, rle_inj]
/-! sums over the rows are sums over the rooms -/
def rsum (f : Int → Int) (rs : Rws) : Int := (rs.map fun p => f p.1 * p.2).sum
theorem rsum_cons (f : Int → Int) (p : Int × Int) (rs : Rws) : rsum f (p :: rs) = f p.1 * p.2 + rsum f rs := by simp [rsum]
theorem sum_rep (x : Int) : ∀ n : Nat, (List.replicate n x).sum = x * n
  | 0 => by simp
  | n + 1 => by
    rw [List.replicate_succ, List.sum_cons, sum_rep x n, Int.natCast_add, Int.mul_add]
    simp only [Int.cast_ofNat_Int, Int.mul_one]
    omega
theorem rsum_expand (f : Int → Int) : ∀ {rs : Rws}, Pos1 rs → rsum f rs = ((expand rs).map f).sum
  | [], _ => rfl
  | p :: rs, h => by
    have hp := h p List.mem_cons_self
    rw [rsum_cons, rsum_expand f fun x hx => h x (List.mem_cons_of_mem _ hx), expand_cons, List.map_append, List.sum_append, List.map_replicate, sum_rep]
    rw [Int.toNat_of_nonneg (by omega)]
theorem tsum_expand {rs : Rws} (h : Pos1 rs) : (rs.map (·.2)).sum = ((expand rs).length : Int) := by
  have := rsum_expand (fun _ => 1) h
  have e : rsum (fun _ => 1) rs = (rs.map (·.2)).sum := by simp [rsum]
  rw [← e, this]
  have : (expand rs).map (fun _ => (1 : Int)) = List.replicate (expand rs).length 1 := List.map_const'
  rw [this, sum_rep]
  simp
theorem rsum_lean (f : Int → Int) {rs : Rws} (h : Pos1 rs) : rsum f (leanR rs) = rsum f rs := by
  rw [rsum_expand f h, rsum_expand f (leanR_lean h).pos, leanR_expand h]
/-! the first ones -/
def firstR : Rws → Int → Rws
  | [], _ => []
  | p :: rs, n => (if 0 < min p.2 n then [(p.1, min p.2 n)] else []) ++ firstR rs (n - min p.2 n)
theorem firstR_pos : ∀ (rs : Rws) (n : Int), Pos1 (firstR rs n)
  | [], _ => fun p hp => by cases hp
  | q :: rs, n => fun p hp => by
    unfold firstR at hp
    rcases List.mem_append.mp hp with hp | hp
    · split at hp
      · rw [List.mem_singleton] at hp; rw [hp]; dsimp only; omega
      · cases hp
    · exact firstR_pos rs _ p hp
theorem firstR_expand : ∀ {rs : Rws} {n : Int}, Pos1 rs → 0 ≤ n → expand (firstR rs n) = (expand rs).take n.toNat
  | [], _, _, _ => by simp [firstR, expand]
  | p :: rs, n, h, hn => by
    have hp := h p List.mem_cons_self
    have h' : Pos1 rs := fun x hx => h x (List.mem_cons_of_mem _ hx)
    rw [firstR, expand_app, firstR_expand h' (by omega), expand_cons, List.take_append, List.length_replicate]
    have e1 : (n - min p.2 n).toNat = n.toNat - p.2.toNat := by omega
    rw [e1, List.take_replicate]
    by_cases h0 : 0 < min p.2 n
    · rw [if_pos h0, expand_cons, expand_nil, List.append_nil]
      have : (min p.2 n).toNat = min n.toNat p.2.toNat := by omega
      rw [this]
    · rw [if_neg h0]
      have : min n.toNat p.2.toNat = 0 := by omega
      rw [this]
      rfl
/-! the greatest ones -/
theorem expand_perm {a b : Rws} (h : a.Perm b) : (expand a).Perm (expand b) := by
  induction h with
  | nil => exact .refl _
  | cons x _ ih => rw [expand_cons, expand_cons]; exact ih.append_left _
  | swap x y l =>
    rw [expand_cons, expand_cons, expand_cons, expand_cons, ← List.append_assoc, ← List.append_assoc]
    exact List.perm_append_comm.append_right _
  | trans _ _ h1 h2 => exact h1.trans h2
theorem expand_reverse : ∀ rs : Rws, expand rs.reverse = (expand rs).reverse
  | [] => rfl
  | p :: rs => by
    rw [List.reverse_cons, expand_app, expand_reverse rs, expand_cons, expand_cons, expand_nil, List.append_nil, List.reverse_append, List.reverse_replicate]
theorem expand_sorted : ∀ {rs : Rws}, rs.Pairwise (fun p q => p.1 ≤ q.1) → (expand rs).Pairwise (· ≤ ·)
  | [], _ => .nil
  | p :: rs, h => by
    rw [List.pairwise_cons] at h
    rw [expand_cons, List.pairwise_append]
    refine ⟨?_, expand_sorted h.2, fun x hx y hy => ?_⟩
    · rw [List.pairwise_replicate]
      exact .inr (Int.le_refl _)
    · rw [List.eq_of_mem_replicate hx]
      obtain ⟨l, hl, hy⟩ := List.mem_flatten.mp hy
      obtain ⟨q, hq, rfl⟩ := List.mem_map.mp hl
      rw [List.eq_of_mem_replicate hy]
      exact h.1 q hq
theorem lexLe_trans (a b c : Int × Int) (h1 : lexLe a b = true) (h2 : lexLe b c = true) : lexLe a c = true := by
  unfold lexLe at *
  simp only [Bool.or_eq_true, Bool.and_eq_true, decide_eq_true_eq] at *
  omega
theorem lexLe_total (a b : Int × Int) : (lexLe a b || lexLe b a) = true := by
  unfold lexLe
  simp only [Bool.or_eq_true, Bool.and_eq_true, decide_eq_true_eq]
  omega
theorem lex_fst {rs : Rws} : (rs.mergeSort lexLe).Pairwise (fun p q => p.1 ≤ q.1) := by
  refine (List.pairwise_mergeSort lexLe_trans lexLe_total rs).imp fun {a b} h => ?_
  unfold lexLe at h
  simp only [Bool.or_eq_true, Bool.and_eq_true, decide_eq_true_eq] at h
  omega
def sortI (xs : List Int) : List Int := xs.mergeSort fun a b => decide (a ≤ b)
theorem sortI_sorted (xs : List Int) : (sortI xs).Pairwise (· ≤ ·) := by
  refine (List.pairwise_mergeSort (le := fun a b : Int => decide (a ≤ b)) (fun a b c h1 h2 => ?_) (fun a b => ?_) xs).imp fun {a b} h => by simpa using h
  · simp only [decide_eq_true_eq] at *; omega
  · simp only [Bool.or_eq_true, decide_eq_true_eq]; omega
theorem sortI_perm (xs : List Int) : (sortI xs).Perm xs := List.mergeSort_perm ..
theorem sorted_eq {a b : List Int} (h : a.Perm b) (ha : a.Pairwise (· ≤ ·)) (hb : b.Pairwise (· ≤ ·)) : a = b :=
  h.eq_of_pairwise (fun x y _ _ h1 h2 => Int.le_antisymm h1 h2) ha hb
theorem expand_sort (rs : Rws) : expand (rs.mergeSort lexLe) = sortI (expand rs) :=
  sorted_eq ((expand_perm (List.mergeSort_perm rs lexLe)).trans (sortI_perm _).symm) (expand_sorted lex_fst) (sortI_sorted _)
theorem pos_perm {a b : Rws} (h : a.Perm b) (hb : Pos1 b) : Pos1 a := fun p hp => hb p (h.mem_iff.mp hp)
theorem pos_sort {rs : Rws} (h : Pos1 rs) : Pos1 (rs.mergeSort lexLe).reverse := pos_perm ((List.reverse_perm _).trans (List.mergeSort_perm ..)) h
theorem expand_great (rs : Rws) : expand (rs.mergeSort lexLe).reverse = (sortI (expand rs)).reverse := by
  rw [expand_reverse, expand_sort]
/-- the greatest k are at least as much as any k -/
theorem take_bound (c : Int) : ∀ (k : Nat) (xs : List Int), k ≤ xs.length → (xs.take k).sum ≤ (xs.map fun x => max (x - c) 0).sum + k * c
  | 0, xs, _ => by
    have : 0 ≤ (xs.map fun x => max (x - c) 0).sum := by
      induction xs with
      | nil => simp
      | cons x xs ih =>
        simp only [List.map_cons, List.sum_cons]
        have := ih (Nat.zero_le _)
        omega
    simpa using this
  | k + 1, [], h => by simp at h
  | k + 1, x :: xs, h => by
    have ih := take_bound c k xs (by simpa using h)
    simp only [List.take_succ_cons, List.sum_cons, List.map_cons]
    have e : ((k + 1 : Nat) : Int) * c = k * c + c := by
      rw [Int.natCast_add, Int.add_mul]; simp
    rw [e]
    omega
theorem take_great {c : Int} : ∀ (k : Nat) (xs : List Int), k ≤ xs.length → (∀ x ∈ xs.take k, c ≤ x) → (∀ x ∈ xs.drop k, x ≤ c) → (xs.take k).sum = (xs.map fun x => max (x - c) 0).sum + k * c
  | 0, xs, _, _, h => by
    have : (xs.map fun x => max (x - c) 0).sum = 0 := by
      rw [List.drop_zero] at h
      induction xs with
      | nil => rfl
      | cons x xs ih =>
        simp only [List.map_cons, List.sum_cons]
        have := ih (Nat.zero_le _) (by simp) fun y hy => h y (List.mem_cons_of_mem _ hy)
        have := h x List.mem_cons_self
        omega
    simp [this]
  | k + 1, [], h, _, _ => by simp at h
  | k + 1, x :: xs, h, h1, h2 => by
    have ih := take_great (c := c) k xs (by simpa using h) (fun y hy => h1 y (by simp [hy])) (fun y hy => h2 y (by simpa using hy))
    have hx := h1 x (by simp)
    simp only [List.take_succ_cons, List.sum_cons, List.map_cons]
    have e : ((k + 1 : Nat) : Int) * c = k * c + c := by
      rw [Int.natCast_add, Int.add_mul]; simp
    rw [e]
    omega
theorem sum_perm {a b : List Int} (h : a.Perm b) : a.sum = b.sum := by
  induction h with
  | nil => rfl
  | cons x _ ih => simp [ih]
  | swap x y l => simp; omega
  | trans _ _ h1 h2 => rw [h1, h2]
theorem great_sum {k : Nat} (xs : List Int) (hk : k ≤ xs.length) : (xs.take k).sum ≤ ((sortI xs).reverse.take k).sum := by
  have hp : (sortI xs).reverse.Perm xs := (List.reverse_perm _).trans (sortI_perm xs)
  cases k with
  | zero => simp
  | succ k =>
    have hl : (sortI xs).reverse.length = xs.length := hp.length_eq
    have hs : ((sortI xs).reverse).Pairwise (fun a b => b ≤ a) := by
      rw [List.pairwise_reverse]
      exact sortI_sorted xs
    generalize (sortI xs).reverse = ys at hp hl hs
    have hlt : k < ys.length := by omega
    have h1 : ∀ x ∈ ys.take (k + 1), ys[k] ≤ x := fun x hx => by
      obtain ⟨i, hi, rfl⟩ := List.mem_iff_getElem.mp hx
      rw [List.getElem_take]
      have hi' : i < k + 1 := by simp at hi; omega
      rcases Nat.lt_or_ge i k with h | h
      · exact List.pairwise_iff_getElem.mp hs i k (by omega) hlt h
      · have : i = k := by omega
        subst this
        exact Int.le_refl _
    have h2 : ∀ x ∈ ys.drop (k + 1), x ≤ ys[k] := fun x hx => by
      obtain ⟨i, hi, rfl⟩ := List.mem_iff_getElem.mp hx
      rw [List.getElem_drop]
      exact List.pairwise_iff_getElem.mp hs k (k + 1 + i) hlt (by simp at hi; omega) (by omega)
    rw [take_great (k + 1) ys (by omega) h1 h2]
    have := take_bound ys[k] (k + 1) xs hk
    rw [sum_perm (hp.map fun x => max (x - ys[k]) 0)]
    exact this
end HT

namespace HT
open Rf L2
theorem eq_of {α : Type} {r : R α} {a : α} (h : Ok r fun x => x = a) : r = .ok a := by
  obtain ⟨b, e, rfl⟩ := h.val
  exact e
theorem mods {a t : Int} (h : 0 < t) : 0 ≤ a % t ∧ a % t < t := ⟨Int.emod_nonneg _ (by omega), Int.emod_lt_of_pos _ h⟩
theorem small {i : Int} (h : i.natAbs < 10 ^ 100) : Sm i = true := Sm_of (Nat.lt_trans h (Nat.pow_lt_pow_right (by decide) (by decide)))
theorem small' {i : Int} (h0 : 0 ≤ i) (h : i < 10 ^ 100) : Sm i = true := small (by
  have : ((10 ^ 100 : Nat) : Int) = 10 ^ 100 := by norm_cast
  omega)
/-! ### the dice -/
theorem s_roll (k : Nat) {a b c t : Int} {m : Mem} {n : Nat} (hm : m[n]? = some (dc a b c)) (h : 0 < t) (h' : Sm t = true) : Ok (callN P (k+1) 22 [.ref n, .int t] m) fun r => ∃ x a' b' c', r = (.int x, m.set n (dc a' b' c')) ∧ 0 ≤ x ∧ x < t := by
  rw [u22]
  have hm' := hm
  have hs := at_set hm
  unfold dc at hm'
  simp only [b22x1t2, b22x1t1, b22x1, b22t4, b22t3, b22t2, b22t1, b22, hm', hs, List.set_set, w_var, w_const, w_glob, w_op, w_nil, w_cons, w_tst, w_and, w_or, w_ife, w_chain, w_slc, w_lc, w_meth, w_meth2, w_ifs0, w_ifs1, w_over, w_range1, w_range2, w_enum, w_zip, w_expr, w_assign, w_par, w_aug, w_setIx, w_retE, w_retN, w_if, w_while, w_for, w_pass, w_brk, w_cont, w_bad, w_snil, w_scons, p_call, p_tup, p_mkT, p_mkLt, p_mkLf, p_lst, p_addI, p_addT, p_addS, p_addL, p_sub, p_mul, p_fdiv, p_mod, p_pow, p_neg, p_not, p_lt, p_le, p_gt, p_ge, p_isN, p_isnotN, p_isB, p_isnotB, p_eqI, p_neI, p_eqB, p_neB, p_len, p_lenL, p_lenC, p_ixC, p_ixT, p_ixL, p_ixR, p_max2, p_min2, p_abs, p_intI, p_intB, p_tupOf, p_listOf, p_sum, p_all, p_any, p_isI, p_isC, s_int, s_bl, s_tup, s_lst, s_str, s_non, s_ins, p_in, p_notin, t_bl, t_int, t_non, t_tup, t_lst, i_tup, i_lst, l_lst, ii_int, ii_bl, ii_tup, ii_lst, ii_str, ii_non, a_name, a_tup, a_nil, a_cons, sa_nil, sa_cons, i_at0, i_at1, i_at2, i_setR, i_ix30, i_ix31, i_ix32, i_lowI, i_lowB, i_lowN, i_lowT, p_eqT, p_neT, p_slT, p_slF, p_sl3, k_tup, k_lst, k_int, k_ins, p_app, i_isTt, i_isTl, i_isTr, l_len0, l_len1, l_len2, l_len3, l_len4, l_len5, l_len6, l_len7, l_len8, l_len9, l_len10, l_len11, l_len12, p_mulL, p_back, p_slLt, p_slLf, w_asgG, w_gName, w_gIx, w_gAttr, w_gTup, w_gNil, w_gCons, w_setAttr, p_neTP, p_eqTP, p_eqLI, p_neLI, i_recvI, Ok_ok, Ok_bad, OkS_ok, OkS_bad, OkS_then, onN_nx, onN_rt, onN_bk, onN_ct, onT_nx, onT_ct, onT_bk, onT_rt, onR_nx, onR_rt, Ok_ret, List.getElem?_cons_zero, List.getElem?_cons_succ, List.set_cons_zero, List.set_cons_succ, cut_same, Option.some.injEq, exists_eq_left', exists_eq_left, D.int.injEq, D.bl.injEq, D.tup.injEq, D.lst.injEq, D.ref.injEq, Cell.lst.injEq, Option.bind_some, Option.map_some, Bool.not_true, Bool.not_false, if_true, if_false, Bool.false_eq_true, reduceCtorEq, decide_true, decide_false, true_and, and_true, Prod.mk.injEq, and_self, String.reduceEq, Bool.or_false, Bool.false_or, Bool.or_true, Bool.true_or, Bool.and_true, Bool.true_and, Bool.and_false, Bool.false_and, reduceIte, beq_self_eq_true]
  by_cases h0 : 0 < a
  · simp only [h0, hm', hs, w_var, w_const, w_glob, w_op, w_nil, w_cons, w_tst, w_and, w_or, w_ife, w_chain, w_slc, w_lc, w_meth, w_meth2, w_ifs0, w_ifs1, w_over, w_range1, w_range2, w_enum, w_zip, w_expr, w_assign, w_par, w_aug, w_setIx, w_retE, w_retN, w_if, w_while, w_for, w_pass, w_brk, w_cont, w_bad, w_snil, w_scons, p_call, p_tup, p_mkT, p_mkLt, p_mkLf, p_lst, p_addI, p_addT, p_addS, p_addL, p_sub, p_mul, p_fdiv, p_mod, p_pow, p_neg, p_not, p_lt, p_le, p_gt, p_ge, p_isN, p_isnotN, p_isB, p_isnotB, p_eqI, p_neI, p_eqB, p_neB, p_len, p_lenL, p_lenC, p_ixC, p_ixT, p_ixL, p_ixR, p_max2, p_min2, p_abs, p_intI, p_intB, p_tupOf, p_listOf, p_sum, p_all, p_any, p_isI, p_isC, s_int, s_bl, s_tup, s_lst, s_str, s_non, s_ins, p_in, p_notin, t_bl, t_int, t_non, t_tup, t_lst, i_tup, i_lst, l_lst, ii_int, ii_bl, ii_tup, ii_lst, ii_str, ii_non, a_name, a_tup, a_nil, a_cons, sa_nil, sa_cons, i_at0, i_at1, i_at2, i_setR, i_ix30, i_ix31, i_ix32, i_lowI, i_lowB, i_lowN, i_lowT, p_eqT, p_neT, p_slT, p_slF, p_sl3, k_tup, k_lst, k_int, k_ins, p_app, i_isTt, i_isTl, i_isTr, l_len0, l_len1, l_len2, l_len3, l_len4, l_len5, l_len6, l_len7, l_len8, l_len9, l_len10, l_len11, l_len12, p_mulL, p_back, p_slLt, p_slLf, w_asgG, w_gName, w_gIx, w_gAttr, w_gTup, w_gNil, w_gCons, w_setAttr, p_neTP, p_eqTP, p_eqLI, p_neLI, i_recvI, Ok_ok, Ok_bad, OkS_ok, OkS_bad, OkS_then, onN_nx, onN_rt, onN_bk, onN_ct, onT_nx, onT_ct, onT_bk, onT_rt, onR_nx, onR_rt, Ok_ret, List.getElem?_cons_zero, List.getElem?_cons_succ, List.set_cons_zero, List.set_cons_succ, cut_same, Option.some.injEq, exists_eq_left', exists_eq_left, D.int.injEq, D.bl.injEq, D.tup.injEq, D.lst.injEq, D.ref.injEq, Cell.lst.injEq, Option.bind_some, Option.map_some, Bool.not_true, Bool.not_false, if_true, if_false, Bool.false_eq_true, reduceCtorEq, decide_true, decide_false, true_and, and_true, Prod.mk.injEq, and_self, String.reduceEq, Bool.or_false, Bool.false_or, Bool.or_true, Bool.true_or, Bool.and_true, Bool.true_and, Bool.and_false, Bool.false_and, reduceIte, beq_self_eq_true, List.set_set]
    refine ⟨h, ⟨h, h'⟩, _, _, _, _, cut_dc i_lowI, mods h⟩
  · simp only [h0, hm', hs, w_var, w_const, w_glob, w_op, w_nil, w_cons, w_tst, w_and, w_or, w_ife, w_chain, w_slc, w_lc, w_meth, w_meth2, w_ifs0, w_ifs1, w_over, w_range1, w_range2, w_enum, w_zip, w_expr, w_assign, w_par, w_aug, w_setIx, w_retE, w_retN, w_if, w_while, w_for, w_pass, w_brk, w_cont, w_bad, w_snil, w_scons, p_call, p_tup, p_mkT, p_mkLt, p_mkLf, p_lst, p_addI, p_addT, p_addS, p_addL, p_sub, p_mul, p_fdiv, p_mod, p_pow, p_neg, p_not, p_lt, p_le, p_gt, p_ge, p_isN, p_isnotN, p_isB, p_isnotB, p_eqI, p_neI, p_eqB, p_neB, p_len, p_lenL, p_lenC, p_ixC, p_ixT, p_ixL, p_ixR, p_max2, p_min2, p_abs, p_intI, p_intB, p_tupOf, p_listOf, p_sum, p_all, p_any, p_isI, p_isC, s_int, s_bl, s_tup, s_lst, s_str, s_non, s_ins, p_in, p_notin, t_bl, t_int, t_non, t_tup, t_lst, i_tup, i_lst, l_lst, ii_int, ii_bl, ii_tup, ii_lst, ii_str, ii_non, a_name, a_tup, a_nil, a_cons, sa_nil, sa_cons, i_at0, i_at1, i_at2, i_setR, i_ix30, i_ix31, i_ix32, i_lowI, i_lowB, i_lowN, i_lowT, p_eqT, p_neT, p_slT, p_slF, p_sl3, k_tup, k_lst, k_int, k_ins, p_app, i_isTt, i_isTl, i_isTr, l_len0, l_len1, l_len2, l_len3, l_len4, l_len5, l_len6, l_len7, l_len8, l_len9, l_len10, l_len11, l_len12, p_mulL, p_back, p_slLt, p_slLf, w_asgG, w_gName, w_gIx, w_gAttr, w_gTup, w_gNil, w_gCons, w_setAttr, p_neTP, p_eqTP, p_eqLI, p_neLI, i_recvI, Ok_ok, Ok_bad, OkS_ok, OkS_bad, OkS_then, onN_nx, onN_rt, onN_bk, onN_ct, onT_nx, onT_ct, onT_bk, onT_rt, onR_nx, onR_rt, Ok_ret, List.getElem?_cons_zero, List.getElem?_cons_succ, List.set_cons_zero, List.set_cons_succ, cut_same, Option.some.injEq, exists_eq_left', exists_eq_left, D.int.injEq, D.bl.injEq, D.tup.injEq, D.lst.injEq, D.ref.injEq, Cell.lst.injEq, Option.bind_some, Option.map_some, Bool.not_true, Bool.not_false, if_true, if_false, Bool.false_eq_true, reduceCtorEq, decide_true, decide_false, true_and, and_true, Prod.mk.injEq, and_self, String.reduceEq, Bool.or_false, Bool.false_or, Bool.or_true, Bool.true_or, Bool.and_true, Bool.true_and, Bool.and_false, Bool.false_and, reduceIte, beq_self_eq_true, List.set_set]
    have q1 := mods (a := b + 86028157 * (c + 1)) (t := 2305843009213693951) (by decide)
    generalize (b + 86028157 * (c + 1)) % 2305843009213693951 = y at q1 ⊢
    refine ⟨mul64 (.inl (by decide)), by decide, mul64 (.inl (by omega)), mul64 (.inl (by decide)), by decide, ?_⟩
    refine ⟨mul64 (.inr (by decide)), ⟨by decide, by decide +kernel⟩, h, _, _, _, _, cut_dc i_lowI, mods h⟩
theorem s_pick (k : Nat) {a b c : Int} {m : Mem} {n : Nat} (hm : m[n]? = some (dc a b c)) {ns : List Int} (h0 : 0 < ns.length) (h1 : ns.length < 1000) : Ok (callN P (k+2) 23 [.ref n, .lst (ns.map .int)] m) fun r => ∃ x a' b' c', r = (.int x, m.set n (dc a' b' c')) ∧ x ∈ ns := by
  rw [u23]
  simp only [b23, w_var, w_const, w_glob, w_op, w_nil, w_cons, w_tst, w_and, w_or, w_ife, w_chain, w_slc, w_lc, w_meth, w_meth2, w_ifs0, w_ifs1, w_over, w_range1, w_range2, w_enum, w_zip, w_expr, w_assign, w_par, w_aug, w_setIx, w_retE, w_retN, w_if, w_while, w_for, w_pass, w_brk, w_cont, w_bad, w_snil, w_scons, p_call, p_tup, p_mkT, p_mkLt, p_mkLf, p_lst, p_addI, p_addT, p_addS, p_addL, p_sub, p_mul, p_fdiv, p_mod, p_pow, p_neg, p_not, p_lt, p_le, p_gt, p_ge, p_isN, p_isnotN, p_isB, p_isnotB, p_eqI, p_neI, p_eqB, p_neB, p_len, p_lenL, p_lenC, p_ixC, p_ixT, p_ixL, p_ixR, p_max2, p_min2, p_abs, p_intI, p_intB, p_tupOf, p_listOf, p_sum, p_all, p_any, p_isI, p_isC, s_int, s_bl, s_tup, s_lst, s_str, s_non, s_ins, p_in, p_notin, t_bl, t_int, t_non, t_tup, t_lst, i_tup, i_lst, l_lst, ii_int, ii_bl, ii_tup, ii_lst, ii_str, ii_non, a_name, a_tup, a_nil, a_cons, sa_nil, sa_cons, i_at0, i_at1, i_at2, i_setR, i_ix30, i_ix31, i_ix32, i_lowI, i_lowB, i_lowN, i_lowT, p_eqT, p_neT, p_slT, p_slF, p_sl3, k_tup, k_lst, k_int, k_ins, p_app, i_isTt, i_isTl, i_isTr, l_len0, l_len1, l_len2, l_len3, l_len4, l_len5, l_len6, l_len7, l_len8, l_len9, l_len10, l_len11, l_len12, p_mulL, p_back, p_slLt, p_slLf, w_asgG, w_gName, w_gIx, w_gAttr, w_gTup, w_gNil, w_gCons, w_setAttr, p_neTP, p_eqTP, p_eqLI, p_neLI, i_recvI, Ok_ok, Ok_bad, OkS_ok, OkS_bad, OkS_then, onN_nx, onN_rt, onN_bk, onN_ct, onT_nx, onT_ct, onT_bk, onT_rt, onR_nx, onR_rt, Ok_ret, List.getElem?_cons_zero, List.getElem?_cons_succ, List.set_cons_zero, List.set_cons_succ, cut_same, Option.some.injEq, exists_eq_left', exists_eq_left, D.int.injEq, D.bl.injEq, D.tup.injEq, D.lst.injEq, D.ref.injEq, Cell.lst.injEq, Option.bind_some, Option.map_some, Bool.not_true, Bool.not_false, if_true, if_false, Bool.false_eq_true, reduceCtorEq, decide_true, decide_false, true_and, and_true, Prod.mk.injEq, and_self, String.reduceEq, Bool.or_false, Bool.false_or, Bool.or_true, Bool.true_or, Bool.and_true, Bool.true_and, Bool.and_false, Bool.false_and, reduceIte, beq_self_eq_true]
  refine (s_roll k hm (by simpa using h0) (small (by rw [List.length_map]; exact Nat.lt_of_lt_of_le (by omega : _ < 10 ^ 3) (Nat.pow_le_pow_right (by decide) (by decide))))).imp fun r ⟨x, a', b', c', e, hx0, hx1⟩ => ?_
  subst e
  obtain ⟨i, rfl⟩ : ∃ i : Nat, x = i := ⟨x.toNat, by omega⟩
  rw [List.length_map] at hx1
  have hi : i < ns.length := by omega
  simp only [w_var, w_const, w_glob, w_op, w_nil, w_cons, w_tst, w_and, w_or, w_ife, w_chain, w_slc, w_lc, w_meth, w_meth2, w_ifs0, w_ifs1, w_over, w_range1, w_range2, w_enum, w_zip, w_expr, w_assign, w_par, w_aug, w_setIx, w_retE, w_retN, w_if, w_while, w_for, w_pass, w_brk, w_cont, w_bad, w_snil, w_scons, p_call, p_tup, p_mkT, p_mkLt, p_mkLf, p_lst, p_addI, p_addT, p_addS, p_addL, p_sub, p_mul, p_fdiv, p_mod, p_pow, p_neg, p_not, p_lt, p_le, p_gt, p_ge, p_isN, p_isnotN, p_isB, p_isnotB, p_eqI, p_neI, p_eqB, p_neB, p_len, p_lenL, p_lenC, p_ixC, p_ixT, p_ixL, p_ixR, p_max2, p_min2, p_abs, p_intI, p_intB, p_tupOf, p_listOf, p_sum, p_all, p_any, p_isI, p_isC, s_int, s_bl, s_tup, s_lst, s_str, s_non, s_ins, p_in, p_notin, t_bl, t_int, t_non, t_tup, t_lst, i_tup, i_lst, l_lst, ii_int, ii_bl, ii_tup, ii_lst, ii_str, ii_non, a_name, a_tup, a_nil, a_cons, sa_nil, sa_cons, i_at0, i_at1, i_at2, i_setR, i_ix30, i_ix31, i_ix32, i_lowI, i_lowB, i_lowN, i_lowT, p_eqT, p_neT, p_slT, p_slF, p_sl3, k_tup, k_lst, k_int, k_ins, p_app, i_isTt, i_isTl, i_isTr, l_len0, l_len1, l_len2, l_len3, l_len4, l_len5, l_len6, l_len7, l_len8, l_len9, l_len10, l_len11, l_len12, p_mulL, p_back, p_slLt, p_slLf, w_asgG, w_gName, w_gIx, w_gAttr, w_gTup, w_gNil, w_gCons, w_setAttr, p_neTP, p_eqTP, p_eqLI, p_neLI, i_recvI, Ok_ok, Ok_bad, OkS_ok, OkS_bad, OkS_then, onN_nx, onN_rt, onN_bk, onN_ct, onT_nx, onT_ct, onT_bk, onT_rt, onR_nx, onR_rt, Ok_ret, List.getElem?_cons_zero, List.getElem?_cons_succ, List.set_cons_zero, List.set_cons_succ, cut_same, Option.some.injEq, exists_eq_left', exists_eq_left, D.int.injEq, D.bl.injEq, D.tup.injEq, D.lst.injEq, D.ref.injEq, Cell.lst.injEq, Option.bind_some, Option.map_some, Bool.not_true, Bool.not_false, if_true, if_false, Bool.false_eq_true, reduceCtorEq, decide_true, decide_false, true_and, and_true, Prod.mk.injEq, and_self, String.reduceEq, Bool.or_false, Bool.false_or, Bool.or_true, Bool.true_or, Bool.and_true, Bool.true_and, Bool.and_false, Bool.false_and, reduceIte, beq_self_eq_true, at_nn, List.getElem?_map, List.getElem?_eq_getElem hi, Option.map_some]
  exact ⟨_, _, _, _, cut_dc i_lowI, List.getElem_mem hi⟩
theorem p54 : ((10 : Int) ^ Int.toNat 54).natAbs < 2 ^ 256 := by decide +kernel
theorem p324 : (0 : Int) < (10 ^ Int.toNat 54) ^ Int.toNat 6 := by decide +kernel
theorem s_dice (k : Nat) (ns : List Int) (i : Nat) (m : Mem) : Ok (callN P (k+1) 21 [.scr ns, .int i] m) fun r => ∃ a b c, r = (.ref m.length, m ++ [dc a b c]) := by
  rw [u21]
  simp only [b21t3, b21t2, b21t1, b21, w_var, w_const, w_glob, w_op, w_nil, w_cons, w_tst, w_and, w_or, w_ife, w_chain, w_slc, w_lc, w_meth, w_meth2, w_ifs0, w_ifs1, w_over, w_range1, w_range2, w_enum, w_zip, w_expr, w_assign, w_par, w_aug, w_setIx, w_retE, w_retN, w_if, w_while, w_for, w_pass, w_brk, w_cont, w_bad, w_snil, w_scons, p_call, p_tup, p_mkT, p_mkLt, p_mkLf, p_lst, p_addI, p_addT, p_addS, p_addL, p_sub, p_mul, p_fdiv, p_mod, p_pow, p_neg, p_not, p_lt, p_le, p_gt, p_ge, p_isN, p_isnotN, p_isB, p_isnotB, p_eqI, p_neI, p_eqB, p_neB, p_len, p_lenL, p_lenC, p_ixC, p_ixT, p_ixL, p_ixR, p_max2, p_min2, p_abs, p_intI, p_intB, p_tupOf, p_listOf, p_sum, p_all, p_any, p_isI, p_isC, s_int, s_bl, s_tup, s_lst, s_str, s_non, s_ins, p_in, p_notin, t_bl, t_int, t_non, t_tup, t_lst, i_tup, i_lst, l_lst, ii_int, ii_bl, ii_tup, ii_lst, ii_str, ii_non, a_name, a_tup, a_nil, a_cons, sa_nil, sa_cons, i_at0, i_at1, i_at2, i_setR, i_ix30, i_ix31, i_ix32, i_lowI, i_lowB, i_lowN, i_lowT, p_eqT, p_neT, p_slT, p_slF, p_sl3, k_tup, k_lst, k_int, k_ins, p_app, i_isTt, i_isTl, i_isTr, l_len0, l_len1, l_len2, l_len3, l_len4, l_len5, l_len6, l_len7, l_len8, l_len9, l_len10, l_len11, l_len12, p_mulL, p_back, p_slLt, p_slLf, w_asgG, w_gName, w_gIx, w_gAttr, w_gTup, w_gNil, w_gCons, w_setAttr, p_neTP, p_eqTP, p_eqLI, p_neLI, i_recvI, Ok_ok, Ok_bad, OkS_ok, OkS_bad, OkS_then, onN_nx, onN_rt, onN_bk, onN_ct, onT_nx, onT_ct, onT_bk, onT_rt, onR_nx, onR_rt, Ok_ret, List.getElem?_cons_zero, List.getElem?_cons_succ, List.set_cons_zero, List.set_cons_succ, cut_same, Option.some.injEq, exists_eq_left', exists_eq_left, D.int.injEq, D.bl.injEq, D.tup.injEq, D.lst.injEq, D.ref.injEq, Cell.lst.injEq, Option.bind_some, Option.map_some, Bool.not_true, Bool.not_false, if_true, if_false, Bool.false_eq_true, reduceCtorEq, decide_true, decide_false, true_and, and_true, Prod.mk.injEq, and_self, String.reduceEq, Bool.or_false, Bool.false_or, Bool.or_true, Bool.true_or, Bool.and_true, Bool.true_and, Bool.and_false, Bool.false_and, reduceIte, beq_self_eq_true]
  by_cases hi : (i : Int) < ns.length
  · have hi' : i < ns.length := by omega
    simp only [hi, w_var, w_const, w_glob, w_op, w_nil, w_cons, w_tst, w_and, w_or, w_ife, w_chain, w_slc, w_lc, w_meth, w_meth2, w_ifs0, w_ifs1, w_over, w_range1, w_range2, w_enum, w_zip, w_expr, w_assign, w_par, w_aug, w_setIx, w_retE, w_retN, w_if, w_while, w_for, w_pass, w_brk, w_cont, w_bad, w_snil, w_scons, p_call, p_tup, p_mkT, p_mkLt, p_mkLf, p_lst, p_addI, p_addT, p_addS, p_addL, p_sub, p_mul, p_fdiv, p_mod, p_pow, p_neg, p_not, p_lt, p_le, p_gt, p_ge, p_isN, p_isnotN, p_isB, p_isnotB, p_eqI, p_neI, p_eqB, p_neB, p_len, p_lenL, p_lenC, p_ixC, p_ixT, p_ixL, p_ixR, p_max2, p_min2, p_abs, p_intI, p_intB, p_tupOf, p_listOf, p_sum, p_all, p_any, p_isI, p_isC, s_int, s_bl, s_tup, s_lst, s_str, s_non, s_ins, p_in, p_notin, t_bl, t_int, t_non, t_tup, t_lst, i_tup, i_lst, l_lst, ii_int, ii_bl, ii_tup, ii_lst, ii_str, ii_non, a_name, a_tup, a_nil, a_cons, sa_nil, sa_cons, i_at0, i_at1, i_at2, i_setR, i_ix30, i_ix31, i_ix32, i_lowI, i_lowB, i_lowN, i_lowT, p_eqT, p_neT, p_slT, p_slF, p_sl3, k_tup, k_lst, k_int, k_ins, p_app, i_isTt, i_isTl, i_isTr, l_len0, l_len1, l_len2, l_len3, l_len4, l_len5, l_len6, l_len7, l_len8, l_len9, l_len10, l_len11, l_len12, p_mulL, p_back, p_slLt, p_slLf, w_asgG, w_gName, w_gIx, w_gAttr, w_gTup, w_gNil, w_gCons, w_setAttr, p_neTP, p_eqTP, p_eqLI, p_neLI, i_recvI, Ok_ok, Ok_bad, OkS_ok, OkS_bad, OkS_then, onN_nx, onN_rt, onN_bk, onN_ct, onT_nx, onT_ct, onT_bk, onT_rt, onR_nx, onR_rt, Ok_ret, List.getElem?_cons_zero, List.getElem?_cons_succ, List.set_cons_zero, List.set_cons_succ, cut_same, Option.some.injEq, exists_eq_left', exists_eq_left, D.int.injEq, D.bl.injEq, D.tup.injEq, D.lst.injEq, D.ref.injEq, Cell.lst.injEq, Option.bind_some, Option.map_some, Bool.not_true, Bool.not_false, if_true, if_false, Bool.false_eq_true, reduceCtorEq, decide_true, decide_false, true_and, and_true, Prod.mk.injEq, and_self, String.reduceEq, Bool.or_false, Bool.false_or, Bool.or_true, Bool.true_or, Bool.and_true, Bool.true_and, Bool.and_false, Bool.false_and, reduceIte, beq_self_eq_true, at_nn, List.getElem?_eq_getElem hi']
    exact ⟨by decide, ⟨by decide, by decide, p54⟩, p324, by decide, mul64 (.inr (by decide)), mul64 (.inl (by decide)), mul64 (.inl (by decide)), by decide, _, _, _, cut_new⟩
  · simp only [hi, w_var, w_const, w_glob, w_op, w_nil, w_cons, w_tst, w_and, w_or, w_ife, w_chain, w_slc, w_lc, w_meth, w_meth2, w_ifs0, w_ifs1, w_over, w_range1, w_range2, w_enum, w_zip, w_expr, w_assign, w_par, w_aug, w_setIx, w_retE, w_retN, w_if, w_while, w_for, w_pass, w_brk, w_cont, w_bad, w_snil, w_scons, p_call, p_tup, p_mkT, p_mkLt, p_mkLf, p_lst, p_addI, p_addT, p_addS, p_addL, p_sub, p_mul, p_fdiv, p_mod, p_pow, p_neg, p_not, p_lt, p_le, p_gt, p_ge, p_isN, p_isnotN, p_isB, p_isnotB, p_eqI, p_neI, p_eqB, p_neB, p_len, p_lenL, p_lenC, p_ixC, p_ixT, p_ixL, p_ixR, p_max2, p_min2, p_abs, p_intI, p_intB, p_tupOf, p_listOf, p_sum, p_all, p_any, p_isI, p_isC, s_int, s_bl, s_tup, s_lst, s_str, s_non, s_ins, p_in, p_notin, t_bl, t_int, t_non, t_tup, t_lst, i_tup, i_lst, l_lst, ii_int, ii_bl, ii_tup, ii_lst, ii_str, ii_non, a_name, a_tup, a_nil, a_cons, sa_nil, sa_cons, i_at0, i_at1, i_at2, i_setR, i_ix30, i_ix31, i_ix32, i_lowI, i_lowB, i_lowN, i_lowT, p_eqT, p_neT, p_slT, p_slF, p_sl3, k_tup, k_lst, k_int, k_ins, p_app, i_isTt, i_isTl, i_isTr, l_len0, l_len1, l_len2, l_len3, l_len4, l_len5, l_len6, l_len7, l_len8, l_len9, l_len10, l_len11, l_len12, p_mulL, p_back, p_slLt, p_slLf, w_asgG, w_gName, w_gIx, w_gAttr, w_gTup, w_gNil, w_gCons, w_setAttr, p_neTP, p_eqTP, p_eqLI, p_neLI, i_recvI, Ok_ok, Ok_bad, OkS_ok, OkS_bad, OkS_then, onN_nx, onN_rt, onN_bk, onN_ct, onT_nx, onT_ct, onT_bk, onT_rt, onR_nx, onR_rt, Ok_ret, List.getElem?_cons_zero, List.getElem?_cons_succ, List.set_cons_zero, List.set_cons_succ, cut_same, Option.some.injEq, exists_eq_left', exists_eq_left, D.int.injEq, D.bl.injEq, D.tup.injEq, D.lst.injEq, D.ref.injEq, Cell.lst.injEq, Option.bind_some, Option.map_some, Bool.not_true, Bool.not_false, if_true, if_false, Bool.false_eq_true, reduceCtorEq, decide_true, decide_false, true_and, and_true, Prod.mk.injEq, and_self, String.reduceEq, Bool.or_false, Bool.false_or, Bool.or_true, Bool.true_or, Bool.and_true, Bool.true_and, Bool.and_false, Bool.false_and, reduceIte, beq_self_eq_true]
    exact ⟨mul64 (.inl (by decide)), by decide, ⟨by decide, by decide, p54⟩, p324, by decide, mul64 (.inr (by decide)), mul64 (.inl (by decide)), mul64 (.inl (by decide)), by decide, _, _, _, cut_new⟩
/-! ### whole numbers -/
theorem s_is_integer (k : Nat) (a : Int) (m : Mem) : callN P (k+1) 0 [.int a] m = .ok (.bl true, m) := eq_of <| by
  rw [u0]
  simp only [b0, w_var, w_const, w_glob, w_op, w_nil, w_cons, w_tst, w_and, w_or, w_ife, w_chain, w_slc, w_lc, w_meth, w_meth2, w_ifs0, w_ifs1, w_over, w_range1, w_range2, w_enum, w_zip, w_expr, w_assign, w_par, w_aug, w_setIx, w_retE, w_retN, w_if, w_while, w_for, w_pass, w_brk, w_cont, w_bad, w_snil, w_scons, p_call, p_tup, p_mkT, p_mkLt, p_mkLf, p_lst, p_addI, p_addT, p_addS, p_addL, p_sub, p_mul, p_fdiv, p_mod, p_pow, p_neg, p_not, p_lt, p_le, p_gt, p_ge, p_isN, p_isnotN, p_isB, p_isnotB, p_eqI, p_neI, p_eqB, p_neB, p_len, p_lenL, p_lenC, p_ixC, p_ixT, p_ixL, p_ixR, p_max2, p_min2, p_abs, p_intI, p_intB, p_tupOf, p_listOf, p_sum, p_all, p_any, p_isI, p_isC, s_int, s_bl, s_tup, s_lst, s_str, s_non, s_ins, p_in, p_notin, t_bl, t_int, t_non, t_tup, t_lst, i_tup, i_lst, l_lst, ii_int, ii_bl, ii_tup, ii_lst, ii_str, ii_non, a_name, a_tup, a_nil, a_cons, sa_nil, sa_cons, i_at0, i_at1, i_at2, i_setR, i_ix30, i_ix31, i_ix32, i_lowI, i_lowB, i_lowN, i_lowT, p_eqT, p_neT, p_slT, p_slF, p_sl3, k_tup, k_lst, k_int, k_ins, p_app, i_isTt, i_isTl, i_isTr, l_len0, l_len1, l_len2, l_len3, l_len4, l_len5, l_len6, l_len7, l_len8, l_len9, l_len10, l_len11, l_len12, p_mulL, p_back, p_slLt, p_slLf, w_asgG, w_gName, w_gIx, w_gAttr, w_gTup, w_gNil, w_gCons, w_setAttr, p_neTP, p_eqTP, p_eqLI, p_neLI, i_recvI, Ok_ok, Ok_bad, OkS_ok, OkS_bad, OkS_then, onN_nx, onN_rt, onN_bk, onN_ct, onT_nx, onT_ct, onT_bk, onT_rt, onR_nx, onR_rt, Ok_ret, List.getElem?_cons_zero, List.getElem?_cons_succ, List.set_cons_zero, List.set_cons_succ, cut_same, Option.some.injEq, exists_eq_left', exists_eq_left, D.int.injEq, D.bl.injEq, D.tup.injEq, D.lst.injEq, D.ref.injEq, Cell.lst.injEq, Option.bind_some, Option.map_some, Bool.not_true, Bool.not_false, if_true, if_false, Bool.false_eq_true, reduceCtorEq, decide_true, decide_false, true_and, and_true, Prod.mk.injEq, and_self, String.reduceEq, Bool.or_false, Bool.false_or, Bool.or_true, Bool.true_or, Bool.and_true, Bool.true_and, Bool.and_false, Bool.false_and, reduceIte, beq_self_eq_true]
theorem s_is_within (k : Nat) (a b c : Int) (m : Mem) : callN P (k+2) 1 [.int a, .int b, .int c] m = .ok (.bl (decide (b ≤ a ∧ a ≤ c)), m) := eq_of <| by
  rw [u1]
  simp only [b1, s_is_integer, w_var, w_const, w_glob, w_op, w_nil, w_cons, w_tst, w_and, w_or, w_ife, w_chain, w_slc, w_lc, w_meth, w_meth2, w_ifs0, w_ifs1, w_over, w_range1, w_range2, w_enum, w_zip, w_expr, w_assign, w_par, w_aug, w_setIx, w_retE, w_retN, w_if, w_while, w_for, w_pass, w_brk, w_cont, w_bad, w_snil, w_scons, p_call, p_tup, p_mkT, p_mkLt, p_mkLf, p_lst, p_addI, p_addT, p_addS, p_addL, p_sub, p_mul, p_fdiv, p_mod, p_pow, p_neg, p_not, p_lt, p_le, p_gt, p_ge, p_isN, p_isnotN, p_isB, p_isnotB, p_eqI, p_neI, p_eqB, p_neB, p_len, p_lenL, p_lenC, p_ixC, p_ixT, p_ixL, p_ixR, p_max2, p_min2, p_abs, p_intI, p_intB, p_tupOf, p_listOf, p_sum, p_all, p_any, p_isI, p_isC, s_int, s_bl, s_tup, s_lst, s_str, s_non, s_ins, p_in, p_notin, t_bl, t_int, t_non, t_tup, t_lst, i_tup, i_lst, l_lst, ii_int, ii_bl, ii_tup, ii_lst, ii_str, ii_non, a_name, a_tup, a_nil, a_cons, sa_nil, sa_cons, i_at0, i_at1, i_at2, i_setR, i_ix30, i_ix31, i_ix32, i_lowI, i_lowB, i_lowN, i_lowT, p_eqT, p_neT, p_slT, p_slF, p_sl3, k_tup, k_lst, k_int, k_ins, p_app, i_isTt, i_isTl, i_isTr, l_len0, l_len1, l_len2, l_len3, l_len4, l_len5, l_len6, l_len7, l_len8, l_len9, l_len10, l_len11, l_len12, p_mulL, p_back, p_slLt, p_slLf, w_asgG, w_gName, w_gIx, w_gAttr, w_gTup, w_gNil, w_gCons, w_setAttr, p_neTP, p_eqTP, p_eqLI, p_neLI, i_recvI, Ok_ok, Ok_bad, OkS_ok, OkS_bad, OkS_then, onN_nx, onN_rt, onN_bk, onN_ct, onT_nx, onT_ct, onT_bk, onT_rt, onR_nx, onR_rt, Ok_ret, List.getElem?_cons_zero, List.getElem?_cons_succ, List.set_cons_zero, List.set_cons_succ, cut_same, Option.some.injEq, exists_eq_left', exists_eq_left, D.int.injEq, D.bl.injEq, D.tup.injEq, D.lst.injEq, D.ref.injEq, Cell.lst.injEq, Option.bind_some, Option.map_some, Bool.not_true, Bool.not_false, if_true, if_false, Bool.false_eq_true, reduceCtorEq, decide_true, decide_false, true_and, and_true, Prod.mk.injEq, and_self, String.reduceEq, Bool.or_false, Bool.false_or, Bool.or_true, Bool.true_or, Bool.and_true, Bool.true_and, Bool.and_false, Bool.false_and, reduceIte, beq_self_eq_true]
  by_cases h : b ≤ a <;> simp [h]
end HT

namespace HT
open Rf L2
/-- sizes of a scale -/
structure Sizes (ns : List Int) : Prop where
  len : 1 ≤ ns.length
  len' : ns.length ≤ 40
  all : ∀ n ∈ ns, 1 ≤ n ∧ n ≤ 10 ^ 60
  div : ∀ p ∈ ns.zip (ns.drop 1), p.2 < p.1 ∧ p.1 % p.2 = 0
theorem c_size : P.consts[0]? = some (.int (10 ^ 60)) := rfl
theorem allB {α : Type} {f : α → Bool} {xs : List α} (h : ∀ x ∈ xs, f x = true) : (xs.map f).all id = true := by
  rw [List.all_map]
  exact List.all_eq_true.mpr h
theorem lim40 {n : Nat} (h : n ≤ 1000) : n ≤ LIM := Nat.le_trans h (show 1000 ≤ 16777216 by decide)
theorem s_are_sizes (k : Nat) {ns : List Int} (m : Mem) (h : Sizes ns) : callN P (k+3) 2 [.tup (ns.map .int)] m = .ok (.bl true, m) := eq_of <| by
  rw [u2]
  have h1 : (1 : Int) ≤ ns.length := by have := h.len; omega
  have h2 : (ns.length : Int) ≤ 40 := by have := h.len'; omega
  simp only [b2x1, b2x2, b2t2, b2t1, b2, c1, c_size, w_var, w_const, w_glob, w_op, w_nil, w_cons, w_tst, w_and, w_or, w_ife, w_chain, w_slc, w_lc, w_meth, w_meth2, w_ifs0, w_ifs1, w_over, w_range1, w_range2, w_enum, w_zip, w_expr, w_assign, w_par, w_aug, w_setIx, w_retE, w_retN, w_if, w_while, w_for, w_pass, w_brk, w_cont, w_bad, w_snil, w_scons, p_call, p_tup, p_mkT, p_mkLt, p_mkLf, p_lst, p_addI, p_addT, p_addS, p_addL, p_sub, p_mul, p_fdiv, p_mod, p_pow, p_neg, p_not, p_lt, p_le, p_gt, p_ge, p_isN, p_isnotN, p_isB, p_isnotB, p_eqI, p_neI, p_eqB, p_neB, p_len, p_lenL, p_lenC, p_ixC, p_ixT, p_ixL, p_ixR, p_max2, p_min2, p_abs, p_intI, p_intB, p_tupOf, p_listOf, p_sum, p_all, p_any, p_isI, p_isC, s_int, s_bl, s_tup, s_lst, s_str, s_non, s_ins, p_in, p_notin, t_bl, t_int, t_non, t_tup, t_lst, i_tup, i_lst, l_lst, ii_int, ii_bl, ii_tup, ii_lst, ii_str, ii_non, a_name, a_tup, a_nil, a_cons, sa_nil, sa_cons, i_at0, i_at1, i_at2, i_setR, i_ix30, i_ix31, i_ix32, i_lowI, i_lowB, i_lowN, i_lowT, p_eqT, p_neT, p_slT, p_slF, p_sl3, k_tup, k_lst, k_int, k_ins, p_app, i_isTt, i_isTl, i_isTr, l_len0, l_len1, l_len2, l_len3, l_len4, l_len5, l_len6, l_len7, l_len8, l_len9, l_len10, l_len11, l_len12, p_mulL, p_back, p_slLt, p_slLf, w_asgG, w_gName, w_gIx, w_gAttr, w_gTup, w_gNil, w_gCons, w_setAttr, p_neTP, p_eqTP, p_eqLI, p_neLI, i_recvI, Ok_ok, Ok_bad, OkS_ok, OkS_bad, OkS_then, onN_nx, onN_rt, onN_bk, onN_ct, onT_nx, onT_ct, onT_bk, onT_rt, onR_nx, onR_rt, Ok_ret, List.getElem?_cons_zero, List.getElem?_cons_succ, List.set_cons_zero, List.set_cons_succ, cut_same, Option.some.injEq, exists_eq_left', exists_eq_left, D.int.injEq, D.bl.injEq, D.tup.injEq, D.lst.injEq, D.ref.injEq, Cell.lst.injEq, Option.bind_some, Option.map_some, Bool.not_true, Bool.not_false, if_true, if_false, Bool.false_eq_true, reduceCtorEq, decide_true, decide_false, true_and, and_true, Prod.mk.injEq, and_self, String.reduceEq, Bool.or_false, Bool.false_or, Bool.or_true, Bool.true_or, Bool.and_true, Bool.true_and, Bool.and_false, Bool.false_and, reduceIte, beq_self_eq_true, List.length_map, h1, h2]
  refine ⟨lim40 (by have := h.len'; omega), lc_map D.int (fun n => .bl true) rfl (fun _ => rfl) (fun n hn => ⟨_, rfl, ?_⟩) ?_⟩
  · have := h.all n hn
    simp only [w_var, w_const, w_glob, w_op, w_nil, w_cons, w_tst, w_and, w_or, w_ife, w_chain, w_slc, w_lc, w_meth, w_meth2, w_ifs0, w_ifs1, w_over, w_range1, w_range2, w_enum, w_zip, w_expr, w_assign, w_par, w_aug, w_setIx, w_retE, w_retN, w_if, w_while, w_for, w_pass, w_brk, w_cont, w_bad, w_snil, w_scons, p_call, p_tup, p_mkT, p_mkLt, p_mkLf, p_lst, p_addI, p_addT, p_addS, p_addL, p_sub, p_mul, p_fdiv, p_mod, p_pow, p_neg, p_not, p_lt, p_le, p_gt, p_ge, p_isN, p_isnotN, p_isB, p_isnotB, p_eqI, p_neI, p_eqB, p_neB, p_len, p_lenL, p_lenC, p_ixC, p_ixT, p_ixL, p_ixR, p_max2, p_min2, p_abs, p_intI, p_intB, p_tupOf, p_listOf, p_sum, p_all, p_any, p_isI, p_isC, s_int, s_bl, s_tup, s_lst, s_str, s_non, s_ins, p_in, p_notin, t_bl, t_int, t_non, t_tup, t_lst, i_tup, i_lst, l_lst, ii_int, ii_bl, ii_tup, ii_lst, ii_str, ii_non, a_name, a_tup, a_nil, a_cons, sa_nil, sa_cons, i_at0, i_at1, i_at2, i_setR, i_ix30, i_ix31, i_ix32, i_lowI, i_lowB, i_lowN, i_lowT, p_eqT, p_neT, p_slT, p_slF, p_sl3, k_tup, k_lst, k_int, k_ins, p_app, i_isTt, i_isTl, i_isTr, l_len0, l_len1, l_len2, l_len3, l_len4, l_len5, l_len6, l_len7, l_len8, l_len9, l_len10, l_len11, l_len12, p_mulL, p_back, p_slLt, p_slLf, w_asgG, w_gName, w_gIx, w_gAttr, w_gTup, w_gNil, w_gCons, w_setAttr, p_neTP, p_eqTP, p_eqLI, p_neLI, i_recvI, Ok_ok, Ok_bad, OkS_ok, OkS_bad, OkS_then, onN_nx, onN_rt, onN_bk, onN_ct, onT_nx, onT_ct, onT_bk, onT_rt, onR_nx, onR_rt, Ok_ret, List.getElem?_cons_zero, List.getElem?_cons_succ, List.set_cons_zero, List.set_cons_succ, cut_same, Option.some.injEq, exists_eq_left', exists_eq_left, D.int.injEq, D.bl.injEq, D.tup.injEq, D.lst.injEq, D.ref.injEq, Cell.lst.injEq, Option.bind_some, Option.map_some, Bool.not_true, Bool.not_false, if_true, if_false, Bool.false_eq_true, reduceCtorEq, decide_true, decide_false, true_and, and_true, Prod.mk.injEq, and_self, String.reduceEq, Bool.or_false, Bool.false_or, Bool.or_true, Bool.true_or, Bool.and_true, Bool.true_and, Bool.and_false, Bool.false_and, reduceIte, beq_self_eq_true, wipeE, s_is_within, c_size, this]
  · simp only [w_var, w_const, w_glob, w_op, w_nil, w_cons, w_tst, w_and, w_or, w_ife, w_chain, w_slc, w_lc, w_meth, w_meth2, w_ifs0, w_ifs1, w_over, w_range1, w_range2, w_enum, w_zip, w_expr, w_assign, w_par, w_aug, w_setIx, w_retE, w_retN, w_if, w_while, w_for, w_pass, w_brk, w_cont, w_bad, w_snil, w_scons, p_call, p_tup, p_mkT, p_mkLt, p_mkLf, p_lst, p_addI, p_addT, p_addS, p_addL, p_sub, p_mul, p_fdiv, p_mod, p_pow, p_neg, p_not, p_lt, p_le, p_gt, p_ge, p_isN, p_isnotN, p_isB, p_isnotB, p_eqI, p_neI, p_eqB, p_neB, p_len, p_lenL, p_lenC, p_ixC, p_ixT, p_ixL, p_ixR, p_max2, p_min2, p_abs, p_intI, p_intB, p_tupOf, p_listOf, p_sum, p_all, p_any, p_isI, p_isC, s_int, s_bl, s_tup, s_lst, s_str, s_non, s_ins, p_in, p_notin, t_bl, t_int, t_non, t_tup, t_lst, i_tup, i_lst, l_lst, ii_int, ii_bl, ii_tup, ii_lst, ii_str, ii_non, a_name, a_tup, a_nil, a_cons, sa_nil, sa_cons, i_at0, i_at1, i_at2, i_setR, i_ix30, i_ix31, i_ix32, i_lowI, i_lowB, i_lowN, i_lowT, p_eqT, p_neT, p_slT, p_slF, p_sl3, k_tup, k_lst, k_int, k_ins, p_app, i_isTt, i_isTl, i_isTr, l_len0, l_len1, l_len2, l_len3, l_len4, l_len5, l_len6, l_len7, l_len8, l_len9, l_len10, l_len11, l_len12, p_mulL, p_back, p_slLt, p_slLf, w_asgG, w_gName, w_gIx, w_gAttr, w_gTup, w_gNil, w_gCons, w_setAttr, p_neTP, p_eqTP, p_eqLI, p_neLI, i_recvI, Ok_ok, Ok_bad, OkS_ok, OkS_bad, OkS_then, onN_nx, onN_rt, onN_bk, onN_ct, onT_nx, onT_ct, onT_bk, onT_rt, onR_nx, onR_rt, Ok_ret, List.getElem?_cons_zero, List.getElem?_cons_succ, List.set_cons_zero, List.set_cons_succ, cut_same, Option.some.injEq, exists_eq_left', exists_eq_left, D.int.injEq, D.bl.injEq, D.tup.injEq, D.lst.injEq, D.ref.injEq, Cell.lst.injEq, Option.bind_some, Option.map_some, Bool.not_true, Bool.not_false, if_true, if_false, Bool.false_eq_true, reduceCtorEq, decide_true, decide_false, true_and, and_true, Prod.mk.injEq, and_self, String.reduceEq, Bool.or_false, Bool.false_or, Bool.or_true, Bool.true_or, Bool.and_true, Bool.true_and, Bool.and_false, Bool.false_and, reduceIte, beq_self_eq_true, List.length_map, boolsD_mapF, cut_drop1, zipD_map]
    refine ⟨lim40 (by have := h.len'; omega), ?_⟩
    rw [allB fun _ _ => rfl]
    simp only [w_var, w_const, w_glob, w_op, w_nil, w_cons, w_tst, w_and, w_or, w_ife, w_chain, w_slc, w_lc, w_meth, w_meth2, w_ifs0, w_ifs1, w_over, w_range1, w_range2, w_enum, w_zip, w_expr, w_assign, w_par, w_aug, w_setIx, w_retE, w_retN, w_if, w_while, w_for, w_pass, w_brk, w_cont, w_bad, w_snil, w_scons, p_call, p_tup, p_mkT, p_mkLt, p_mkLf, p_lst, p_addI, p_addT, p_addS, p_addL, p_sub, p_mul, p_fdiv, p_mod, p_pow, p_neg, p_not, p_lt, p_le, p_gt, p_ge, p_isN, p_isnotN, p_isB, p_isnotB, p_eqI, p_neI, p_eqB, p_neB, p_len, p_lenL, p_lenC, p_ixC, p_ixT, p_ixL, p_ixR, p_max2, p_min2, p_abs, p_intI, p_intB, p_tupOf, p_listOf, p_sum, p_all, p_any, p_isI, p_isC, s_int, s_bl, s_tup, s_lst, s_str, s_non, s_ins, p_in, p_notin, t_bl, t_int, t_non, t_tup, t_lst, i_tup, i_lst, l_lst, ii_int, ii_bl, ii_tup, ii_lst, ii_str, ii_non, a_name, a_tup, a_nil, a_cons, sa_nil, sa_cons, i_at0, i_at1, i_at2, i_setR, i_ix30, i_ix31, i_ix32, i_lowI, i_lowB, i_lowN, i_lowT, p_eqT, p_neT, p_slT, p_slF, p_sl3, k_tup, k_lst, k_int, k_ins, p_app, i_isTt, i_isTl, i_isTr, l_len0, l_len1, l_len2, l_len3, l_len4, l_len5, l_len6, l_len7, l_len8, l_len9, l_len10, l_len11, l_len12, p_mulL, p_back, p_slLt, p_slLf, w_asgG, w_gName, w_gIx, w_gAttr, w_gTup, w_gNil, w_gCons, w_setAttr, p_neTP, p_eqTP, p_eqLI, p_neLI, i_recvI, Ok_ok, Ok_bad, OkS_ok, OkS_bad, OkS_then, onN_nx, onN_rt, onN_bk, onN_ct, onT_nx, onT_ct, onT_bk, onT_rt, onR_nx, onR_rt, Ok_ret, List.getElem?_cons_zero, List.getElem?_cons_succ, List.set_cons_zero, List.set_cons_succ, cut_same, Option.some.injEq, exists_eq_left', exists_eq_left, D.int.injEq, D.bl.injEq, D.tup.injEq, D.lst.injEq, D.ref.injEq, Cell.lst.injEq, Option.bind_some, Option.map_some, Bool.not_true, Bool.not_false, if_true, if_false, Bool.false_eq_true, reduceCtorEq, decide_true, decide_false, true_and, and_true, Prod.mk.injEq, and_self, String.reduceEq, Bool.or_false, Bool.false_or, Bool.or_true, Bool.true_or, Bool.and_true, Bool.true_and, Bool.and_false, Bool.false_and, reduceIte, beq_self_eq_true]
    refine ⟨lim40 (by simp; have := h.len'; omega), lc_map _ (fun _ => .bl true) rfl (fun _ => rfl) (fun p hp => ⟨_, rfl, ?_⟩) ?_⟩
    · obtain ⟨d1, d2⟩ := h.div p hp
      have h0 : 0 < p.2 := by
        have := h.all p.2 (List.mem_of_mem_drop (List.of_mem_zip hp).2)
        omega
      simp only [w_var, w_const, w_glob, w_op, w_nil, w_cons, w_tst, w_and, w_or, w_ife, w_chain, w_slc, w_lc, w_meth, w_meth2, w_ifs0, w_ifs1, w_over, w_range1, w_range2, w_enum, w_zip, w_expr, w_assign, w_par, w_aug, w_setIx, w_retE, w_retN, w_if, w_while, w_for, w_pass, w_brk, w_cont, w_bad, w_snil, w_scons, p_call, p_tup, p_mkT, p_mkLt, p_mkLf, p_lst, p_addI, p_addT, p_addS, p_addL, p_sub, p_mul, p_fdiv, p_mod, p_pow, p_neg, p_not, p_lt, p_le, p_gt, p_ge, p_isN, p_isnotN, p_isB, p_isnotB, p_eqI, p_neI, p_eqB, p_neB, p_len, p_lenL, p_lenC, p_ixC, p_ixT, p_ixL, p_ixR, p_max2, p_min2, p_abs, p_intI, p_intB, p_tupOf, p_listOf, p_sum, p_all, p_any, p_isI, p_isC, s_int, s_bl, s_tup, s_lst, s_str, s_non, s_ins, p_in, p_notin, t_bl, t_int, t_non, t_tup, t_lst, i_tup, i_lst, l_lst, ii_int, ii_bl, ii_tup, ii_lst, ii_str, ii_non, a_name, a_tup, a_nil, a_cons, sa_nil, sa_cons, i_at0, i_at1, i_at2, i_setR, i_ix30, i_ix31, i_ix32, i_lowI, i_lowB, i_lowN, i_lowT, p_eqT, p_neT, p_slT, p_slF, p_sl3, k_tup, k_lst, k_int, k_ins, p_app, i_isTt, i_isTl, i_isTr, l_len0, l_len1, l_len2, l_len3, l_len4, l_len5, l_len6, l_len7, l_len8, l_len9, l_len10, l_len11, l_len12, p_mulL, p_back, p_slLt, p_slLf, w_asgG, w_gName, w_gIx, w_gAttr, w_gTup, w_gNil, w_gCons, w_setAttr, p_neTP, p_eqTP, p_eqLI, p_neLI, i_recvI, Ok_ok, Ok_bad, OkS_ok, OkS_bad, OkS_then, onN_nx, onN_rt, onN_bk, onN_ct, onT_nx, onT_ct, onT_bk, onT_rt, onR_nx, onR_rt, Ok_ret, List.getElem?_cons_zero, List.getElem?_cons_succ, List.set_cons_zero, List.set_cons_succ, cut_same, Option.some.injEq, exists_eq_left', exists_eq_left, D.int.injEq, D.bl.injEq, D.tup.injEq, D.lst.injEq, D.ref.injEq, Cell.lst.injEq, Option.bind_some, Option.map_some, Bool.not_true, Bool.not_false, if_true, if_false, Bool.false_eq_true, reduceCtorEq, decide_true, decide_false, true_and, and_true, Prod.mk.injEq, and_self, String.reduceEq, Bool.or_false, Bool.false_or, Bool.or_true, Bool.true_or, Bool.and_true, Bool.true_and, Bool.and_false, Bool.false_and, reduceIte, beq_self_eq_true, wipeE, d1, d2, h0]
    · simp only [w_var, w_const, w_glob, w_op, w_nil, w_cons, w_tst, w_and, w_or, w_ife, w_chain, w_slc, w_lc, w_meth, w_meth2, w_ifs0, w_ifs1, w_over, w_range1, w_range2, w_enum, w_zip, w_expr, w_assign, w_par, w_aug, w_setIx, w_retE, w_retN, w_if, w_while, w_for, w_pass, w_brk, w_cont, w_bad, w_snil, w_scons, p_call, p_tup, p_mkT, p_mkLt, p_mkLf, p_lst, p_addI, p_addT, p_addS, p_addL, p_sub, p_mul, p_fdiv, p_mod, p_pow, p_neg, p_not, p_lt, p_le, p_gt, p_ge, p_isN, p_isnotN, p_isB, p_isnotB, p_eqI, p_neI, p_eqB, p_neB, p_len, p_lenL, p_lenC, p_ixC, p_ixT, p_ixL, p_ixR, p_max2, p_min2, p_abs, p_intI, p_intB, p_tupOf, p_listOf, p_sum, p_all, p_any, p_isI, p_isC, s_int, s_bl, s_tup, s_lst, s_str, s_non, s_ins, p_in, p_notin, t_bl, t_int, t_non, t_tup, t_lst, i_tup, i_lst, l_lst, ii_int, ii_bl, ii_tup, ii_lst, ii_str, ii_non, a_name, a_tup, a_nil, a_cons, sa_nil, sa_cons, i_at0, i_at1, i_at2, i_setR, i_ix30, i_ix31, i_ix32, i_lowI, i_lowB, i_lowN, i_lowT, p_eqT, p_neT, p_slT, p_slF, p_sl3, k_tup, k_lst, k_int, k_ins, p_app, i_isTt, i_isTl, i_isTr, l_len0, l_len1, l_len2, l_len3, l_len4, l_len5, l_len6, l_len7, l_len8, l_len9, l_len10, l_len11, l_len12, p_mulL, p_back, p_slLt, p_slLf, w_asgG, w_gName, w_gIx, w_gAttr, w_gTup, w_gNil, w_gCons, w_setAttr, p_neTP, p_eqTP, p_eqLI, p_neLI, i_recvI, Ok_ok, Ok_bad, OkS_ok, OkS_bad, OkS_then, onN_nx, onN_rt, onN_bk, onN_ct, onT_nx, onT_ct, onT_bk, onT_rt, onR_nx, onR_rt, Ok_ret, List.getElem?_cons_zero, List.getElem?_cons_succ, List.set_cons_zero, List.set_cons_succ, cut_same, Option.some.injEq, exists_eq_left', exists_eq_left, D.int.injEq, D.bl.injEq, D.tup.injEq, D.lst.injEq, D.ref.injEq, Cell.lst.injEq, Option.bind_some, Option.map_some, Bool.not_true, Bool.not_false, if_true, if_false, Bool.false_eq_true, reduceCtorEq, decide_true, decide_false, true_and, and_true, Prod.mk.injEq, and_self, String.reduceEq, Bool.or_false, Bool.false_or, Bool.or_true, Bool.true_or, Bool.and_true, Bool.true_and, Bool.and_false, Bool.false_and, reduceIte, beq_self_eq_true, List.length_map, boolsD_mapF]
      refine ⟨lim40 (by simp; have := h.len'; omega), ?_⟩
      rw [allB fun _ _ => rfl]
theorem mem_obj {m : Mem} {c : Cell} : (m ++ [c])[m.length]? = some c := at_app
theorem set_app' {m : Mem} {c c' : Cell} : (m ++ [c]).set m.length c' = m ++ [c'] := set_app
theorem s_scale_init (k : Nat) {ns : List Int} (m : Mem) (h : Sizes ns) : callN P (k+4) 33 [.ref m.length, .tup (ns.map .int)] (m ++ [.obj 0 []]) = .ok (.non, m ++ [.obj 0 [some (.tup (ns.map .int))]]) := eq_of <| by
  rw [u33]
  have e : setAttrOf P (.ref m.length) "own_sizes" (.tup (ns.map .int)) (m ++ [.obj 0 []]) = some (m ++ [.obj 0 [some (.tup (ns.map .int))]]) := by
    simp only [setAttrOf, mem_obj, k0]
    show some ((m ++ [Cell.obj 0 []]).set m.length _) = _
    rw [set_app']
    rfl
  simp only [b33x1, b33t1, b33, w_var, w_const, w_glob, w_op, w_nil, w_cons, w_tst, w_and, w_or, w_ife, w_chain, w_slc, w_lc, w_meth, w_meth2, w_ifs0, w_ifs1, w_over, w_range1, w_range2, w_enum, w_zip, w_expr, w_assign, w_par, w_aug, w_setIx, w_retE, w_retN, w_if, w_while, w_for, w_pass, w_brk, w_cont, w_bad, w_snil, w_scons, p_call, p_tup, p_mkT, p_mkLt, p_mkLf, p_lst, p_addI, p_addT, p_addS, p_addL, p_sub, p_mul, p_fdiv, p_mod, p_pow, p_neg, p_not, p_lt, p_le, p_gt, p_ge, p_isN, p_isnotN, p_isB, p_isnotB, p_eqI, p_neI, p_eqB, p_neB, p_len, p_lenL, p_lenC, p_ixC, p_ixT, p_ixL, p_ixR, p_max2, p_min2, p_abs, p_intI, p_intB, p_tupOf, p_listOf, p_sum, p_all, p_any, p_isI, p_isC, s_int, s_bl, s_tup, s_lst, s_str, s_non, s_ins, p_in, p_notin, t_bl, t_int, t_non, t_tup, t_lst, i_tup, i_lst, l_lst, ii_int, ii_bl, ii_tup, ii_lst, ii_str, ii_non, a_name, a_tup, a_nil, a_cons, sa_nil, sa_cons, i_at0, i_at1, i_at2, i_setR, i_ix30, i_ix31, i_ix32, i_lowI, i_lowB, i_lowN, i_lowT, p_eqT, p_neT, p_slT, p_slF, p_sl3, k_tup, k_lst, k_int, k_ins, p_app, i_isTt, i_isTl, i_isTr, l_len0, l_len1, l_len2, l_len3, l_len4, l_len5, l_len6, l_len7, l_len8, l_len9, l_len10, l_len11, l_len12, p_mulL, p_back, p_slLt, p_slLf, w_asgG, w_gName, w_gIx, w_gAttr, w_gTup, w_gNil, w_gCons, w_setAttr, p_neTP, p_eqTP, p_eqLI, p_neLI, i_recvI, Ok_ok, Ok_bad, OkS_ok, OkS_bad, OkS_then, onN_nx, onN_rt, onN_bk, onN_ct, onT_nx, onT_ct, onT_bk, onT_rt, onR_nx, onR_rt, Ok_ret, List.getElem?_cons_zero, List.getElem?_cons_succ, List.set_cons_zero, List.set_cons_succ, cut_same, Option.some.injEq, exists_eq_left', exists_eq_left, D.int.injEq, D.bl.injEq, D.tup.injEq, D.lst.injEq, D.ref.injEq, Cell.lst.injEq, Option.bind_some, Option.map_some, Bool.not_true, Bool.not_false, if_true, if_false, Bool.false_eq_true, reduceCtorEq, decide_true, decide_false, true_and, and_true, Prod.mk.injEq, and_self, String.reduceEq, Bool.or_false, Bool.false_or, Bool.or_true, Bool.true_or, Bool.and_true, Bool.true_and, Bool.and_false, Bool.false_and, reduceIte, beq_self_eq_true, s_are_sizes k _ h, e]
  exact cut_upd (low_obj1 (by rw [i_lowT]; exact lows_ints _ _))
theorem new_scale (k : Nat) {ns : List Int} (m : Mem) (h : Sizes ns) : prim P (callN P (k+4)) (.new 0) [.tup (ns.map .int)] m = .ok (.ins 0 [.tup (ns.map .int)], m) := by
  rw [new_frz k0 rfl (s_scale_init k m h) at_app rfl rfl (by simp only [D.lows, i_lowT, lows_ints, Bool.and_self]) (oldOk_app _ m _), List.take_left]
theorem at_own_sizes {call : Nat → List D → Mem → R (D × Mem)} {d : D} {m : Mem} : prim P call (.attr "own_sizes") [.ins 0 [d]] m = .ok (d, m) := by
  rfl
theorem at_sizes (k : Nat) {d : D} {m : Mem} : prim P (callN P (k+1)) (.attr "sizes") [.ins 0 [d]] m = .ok (d, m) := by
  have e : callN P (k+1) 34 [.ins 0 [d]] m = .ok (d, m) := eq_of <| by
    rw [u34]
    simp only [b34, w_var, w_const, w_glob, w_op, w_nil, w_cons, w_tst, w_and, w_or, w_ife, w_chain, w_slc, w_lc, w_meth, w_meth2, w_ifs0, w_ifs1, w_over, w_range1, w_range2, w_enum, w_zip, w_expr, w_assign, w_par, w_aug, w_setIx, w_retE, w_retN, w_if, w_while, w_for, w_pass, w_brk, w_cont, w_bad, w_snil, w_scons, p_call, p_tup, p_mkT, p_mkLt, p_mkLf, p_lst, p_addI, p_addT, p_addS, p_addL, p_sub, p_mul, p_fdiv, p_mod, p_pow, p_neg, p_not, p_lt, p_le, p_gt, p_ge, p_isN, p_isnotN, p_isB, p_isnotB, p_eqI, p_neI, p_eqB, p_neB, p_len, p_lenL, p_lenC, p_ixC, p_ixT, p_ixL, p_ixR, p_max2, p_min2, p_abs, p_intI, p_intB, p_tupOf, p_listOf, p_sum, p_all, p_any, p_isI, p_isC, s_int, s_bl, s_tup, s_lst, s_str, s_non, s_ins, p_in, p_notin, t_bl, t_int, t_non, t_tup, t_lst, i_tup, i_lst, l_lst, ii_int, ii_bl, ii_tup, ii_lst, ii_str, ii_non, a_name, a_tup, a_nil, a_cons, sa_nil, sa_cons, i_at0, i_at1, i_at2, i_setR, i_ix30, i_ix31, i_ix32, i_lowI, i_lowB, i_lowN, i_lowT, p_eqT, p_neT, p_slT, p_slF, p_sl3, k_tup, k_lst, k_int, k_ins, p_app, i_isTt, i_isTl, i_isTr, l_len0, l_len1, l_len2, l_len3, l_len4, l_len5, l_len6, l_len7, l_len8, l_len9, l_len10, l_len11, l_len12, p_mulL, p_back, p_slLt, p_slLf, w_asgG, w_gName, w_gIx, w_gAttr, w_gTup, w_gNil, w_gCons, w_setAttr, p_neTP, p_eqTP, p_eqLI, p_neLI, i_recvI, Ok_ok, Ok_bad, OkS_ok, OkS_bad, OkS_then, onN_nx, onN_rt, onN_bk, onN_ct, onT_nx, onT_ct, onT_bk, onT_rt, onR_nx, onR_rt, Ok_ret, List.getElem?_cons_zero, List.getElem?_cons_succ, List.set_cons_zero, List.set_cons_succ, cut_same, Option.some.injEq, exists_eq_left', exists_eq_left, D.int.injEq, D.bl.injEq, D.tup.injEq, D.lst.injEq, D.ref.injEq, Cell.lst.injEq, Option.bind_some, Option.map_some, Bool.not_true, Bool.not_false, if_true, if_false, Bool.false_eq_true, reduceCtorEq, decide_true, decide_false, true_and, and_true, Prod.mk.injEq, and_self, String.reduceEq, Bool.or_false, Bool.false_or, Bool.or_true, Bool.true_or, Bool.and_true, Bool.true_and, Bool.and_false, Bool.false_and, reduceIte, beq_self_eq_true, at_own_sizes]
  have e2 : prim P (callN P (k+1)) (.attr "sizes") [.ins 0 [d]] m = nox (callN P (k+1) 34 [.ins 0 [d]] m) := rfl
  rw [e2, e]
  rfl
theorem s_scale_eq (k : Nat) {a b : List Int} {m : Mem} : callN P (k+1) 35 [.ins 0 [.tup (a.map .int)], .ins 0 [.tup (b.map .int)]] m = .ok (.bl (decide (a = b)), m) := eq_of <| by
  rw [u35]
  simp only [b35, w_var, w_const, w_glob, w_op, w_nil, w_cons, w_tst, w_and, w_or, w_ife, w_chain, w_slc, w_lc, w_meth, w_meth2, w_ifs0, w_ifs1, w_over, w_range1, w_range2, w_enum, w_zip, w_expr, w_assign, w_par, w_aug, w_setIx, w_retE, w_retN, w_if, w_while, w_for, w_pass, w_brk, w_cont, w_bad, w_snil, w_scons, p_call, p_tup, p_mkT, p_mkLt, p_mkLf, p_lst, p_addI, p_addT, p_addS, p_addL, p_sub, p_mul, p_fdiv, p_mod, p_pow, p_neg, p_not, p_lt, p_le, p_gt, p_ge, p_isN, p_isnotN, p_isB, p_isnotB, p_eqI, p_neI, p_eqB, p_neB, p_len, p_lenL, p_lenC, p_ixC, p_ixT, p_ixL, p_ixR, p_max2, p_min2, p_abs, p_intI, p_intB, p_tupOf, p_listOf, p_sum, p_all, p_any, p_isI, p_isC, s_int, s_bl, s_tup, s_lst, s_str, s_non, s_ins, p_in, p_notin, t_bl, t_int, t_non, t_tup, t_lst, i_tup, i_lst, l_lst, ii_int, ii_bl, ii_tup, ii_lst, ii_str, ii_non, a_name, a_tup, a_nil, a_cons, sa_nil, sa_cons, i_at0, i_at1, i_at2, i_setR, i_ix30, i_ix31, i_ix32, i_lowI, i_lowB, i_lowN, i_lowT, p_eqT, p_neT, p_slT, p_slF, p_sl3, k_tup, k_lst, k_int, k_ins, p_app, i_isTt, i_isTl, i_isTr, l_len0, l_len1, l_len2, l_len3, l_len4, l_len5, l_len6, l_len7, l_len8, l_len9, l_len10, l_len11, l_len12, p_mulL, p_back, p_slLt, p_slLf, w_asgG, w_gName, w_gIx, w_gAttr, w_gTup, w_gNil, w_gCons, w_setAttr, p_neTP, p_eqTP, p_eqLI, p_neLI, i_recvI, Ok_ok, Ok_bad, OkS_ok, OkS_bad, OkS_then, onN_nx, onN_rt, onN_bk, onN_ct, onT_nx, onT_ct, onT_bk, onT_rt, onR_nx, onR_rt, Ok_ret, List.getElem?_cons_zero, List.getElem?_cons_succ, List.set_cons_zero, List.set_cons_succ, cut_same, Option.some.injEq, exists_eq_left', exists_eq_left, D.int.injEq, D.bl.injEq, D.tup.injEq, D.lst.injEq, D.ref.injEq, Cell.lst.injEq, Option.bind_some, Option.map_some, Bool.not_true, Bool.not_false, if_true, if_false, Bool.false_eq_true, reduceCtorEq, decide_true, decide_false, true_and, and_true, Prod.mk.injEq, and_self, String.reduceEq, Bool.or_false, Bool.false_or, Bool.or_true, Bool.true_or, Bool.and_true, Bool.true_and, Bool.and_false, Bool.false_and, reduceIte, beq_self_eq_true, at_own_sizes, p_eqT, k0, Option.isSome_some]
theorem eq_scale (k : Nat) {a b : List Int} {m : Mem} : prim P (callN P (k+1)) .eq [.ins 0 [.tup (a.map .int)], .ins 0 [.tup (b.map .int)]] m = .ok (.bl (decide (a = b)), m) :=
  p_eqIns1 rfl (s_scale_eq k)
theorem s_require_scale (k : Nat) {fs : List D} {m : Mem} : callN P (k+1) 3 [.ins 0 fs] m = .ok (.non, m) := eq_of <| by
  rw [u3]
  simp only [b3x1, b3, w_var, w_const, w_glob, w_op, w_nil, w_cons, w_tst, w_and, w_or, w_ife, w_chain, w_slc, w_lc, w_meth, w_meth2, w_ifs0, w_ifs1, w_over, w_range1, w_range2, w_enum, w_zip, w_expr, w_assign, w_par, w_aug, w_setIx, w_retE, w_retN, w_if, w_while, w_for, w_pass, w_brk, w_cont, w_bad, w_snil, w_scons, p_call, p_tup, p_mkT, p_mkLt, p_mkLf, p_lst, p_addI, p_addT, p_addS, p_addL, p_sub, p_mul, p_fdiv, p_mod, p_pow, p_neg, p_not, p_lt, p_le, p_gt, p_ge, p_isN, p_isnotN, p_isB, p_isnotB, p_eqI, p_neI, p_eqB, p_neB, p_len, p_lenL, p_lenC, p_ixC, p_ixT, p_ixL, p_ixR, p_max2, p_min2, p_abs, p_intI, p_intB, p_tupOf, p_listOf, p_sum, p_all, p_any, p_isI, p_isC, s_int, s_bl, s_tup, s_lst, s_str, s_non, s_ins, p_in, p_notin, t_bl, t_int, t_non, t_tup, t_lst, i_tup, i_lst, l_lst, ii_int, ii_bl, ii_tup, ii_lst, ii_str, ii_non, a_name, a_tup, a_nil, a_cons, sa_nil, sa_cons, i_at0, i_at1, i_at2, i_setR, i_ix30, i_ix31, i_ix32, i_lowI, i_lowB, i_lowN, i_lowT, p_eqT, p_neT, p_slT, p_slF, p_sl3, k_tup, k_lst, k_int, k_ins, p_app, i_isTt, i_isTl, i_isTr, l_len0, l_len1, l_len2, l_len3, l_len4, l_len5, l_len6, l_len7, l_len8, l_len9, l_len10, l_len11, l_len12, p_mulL, p_back, p_slLt, p_slLf, w_asgG, w_gName, w_gIx, w_gAttr, w_gTup, w_gNil, w_gCons, w_setAttr, p_neTP, p_eqTP, p_eqLI, p_neLI, i_recvI, Ok_ok, Ok_bad, OkS_ok, OkS_bad, OkS_then, onN_nx, onN_rt, onN_bk, onN_ct, onT_nx, onT_ct, onT_bk, onT_rt, onR_nx, onR_rt, Ok_ret, List.getElem?_cons_zero, List.getElem?_cons_succ, List.set_cons_zero, List.set_cons_succ, cut_same, Option.some.injEq, exists_eq_left', exists_eq_left, D.int.injEq, D.bl.injEq, D.tup.injEq, D.lst.injEq, D.ref.injEq, Cell.lst.injEq, Option.bind_some, Option.map_some, Bool.not_true, Bool.not_false, if_true, if_false, Bool.false_eq_true, reduceCtorEq, decide_true, decide_false, true_and, and_true, Prod.mk.injEq, and_self, String.reduceEq, Bool.or_false, Bool.false_or, Bool.or_true, Bool.true_or, Bool.and_true, Bool.true_and, Bool.and_false, Bool.false_and, reduceIte, beq_self_eq_true, k0, Option.isSome_some]
end HT

namespace HT
open Rf L2
def B60 : Int := 10 ^ 60
theorem c_room : P.consts[3]? = some (.int B60) := rfl
theorem c_holds : P.consts[4]? = some (.int B60) := rfl
theorem sm60 {i : Int} (h0 : 0 ≤ i) (h : i ≤ B60) : Sm i = true := small' h0 (Int.lt_of_le_of_lt h (by unfold B60; decide +kernel))
structure RowsOk (rs : Rws) : Prop where
  len : rs.length ≤ 200
  all : ∀ p ∈ rs, (1 ≤ p.1 ∧ p.1 ≤ B60) ∧ (1 ≤ p.2 ∧ p.2 ≤ B60)
  room : rsum id rs ≤ B60
theorem RowsOk.pos {rs : Rws} (h : RowsOk rs) : Pos1 rs := fun p hp => (h.all p hp).2.1
theorem s_is_row (k : Nat) {p : Int × Int} (m : Mem) (h1 : 1 ≤ p.1 ∧ p.1 ≤ B60) (h2 : 1 ≤ p.2 ∧ p.2 ≤ B60) : callN P (k+3) 4 [pairT p] m = .ok (.bl true, m) := eq_of <| by
  rw [u4]
  simp only [b4x1, b4t1, b4, c_room, c_holds, pairT, w_var, w_const, w_glob, w_op, w_nil, w_cons, w_tst, w_and, w_or, w_ife, w_chain, w_slc, w_lc, w_meth, w_meth2, w_ifs0, w_ifs1, w_over, w_range1, w_range2, w_enum, w_zip, w_expr, w_assign, w_par, w_aug, w_setIx, w_retE, w_retN, w_if, w_while, w_for, w_pass, w_brk, w_cont, w_bad, w_snil, w_scons, p_call, p_tup, p_mkT, p_mkLt, p_mkLf, p_lst, p_addI, p_addT, p_addS, p_addL, p_sub, p_mul, p_fdiv, p_mod, p_pow, p_neg, p_not, p_lt, p_le, p_gt, p_ge, p_isN, p_isnotN, p_isB, p_isnotB, p_eqI, p_neI, p_eqB, p_neB, p_len, p_lenL, p_lenC, p_ixC, p_ixT, p_ixL, p_ixR, p_max2, p_min2, p_abs, p_intI, p_intB, p_tupOf, p_listOf, p_sum, p_all, p_any, p_isI, p_isC, s_int, s_bl, s_tup, s_lst, s_str, s_non, s_ins, p_in, p_notin, t_bl, t_int, t_non, t_tup, t_lst, i_tup, i_lst, l_lst, ii_int, ii_bl, ii_tup, ii_lst, ii_str, ii_non, a_name, a_tup, a_nil, a_cons, sa_nil, sa_cons, i_at0, i_at1, i_at2, i_setR, i_ix30, i_ix31, i_ix32, i_lowI, i_lowB, i_lowN, i_lowT, p_eqT, p_neT, p_slT, p_slF, p_sl3, k_tup, k_lst, k_int, k_ins, p_app, i_isTt, i_isTl, i_isTr, l_len0, l_len1, l_len2, l_len3, l_len4, l_len5, l_len6, l_len7, l_len8, l_len9, l_len10, l_len11, l_len12, p_mulL, p_back, p_slLt, p_slLf, w_asgG, w_gName, w_gIx, w_gAttr, w_gTup, w_gNil, w_gCons, w_setAttr, p_neTP, p_eqTP, p_eqLI, p_neLI, i_recvI, Ok_ok, Ok_bad, OkS_ok, OkS_bad, OkS_then, onN_nx, onN_rt, onN_bk, onN_ct, onT_nx, onT_ct, onT_bk, onT_rt, onR_nx, onR_rt, Ok_ret, List.getElem?_cons_zero, List.getElem?_cons_succ, List.set_cons_zero, List.set_cons_succ, cut_same, Option.some.injEq, exists_eq_left', exists_eq_left, D.int.injEq, D.bl.injEq, D.tup.injEq, D.lst.injEq, D.ref.injEq, Cell.lst.injEq, Option.bind_some, Option.map_some, Bool.not_true, Bool.not_false, if_true, if_false, Bool.false_eq_true, reduceCtorEq, decide_true, decide_false, true_and, and_true, Prod.mk.injEq, and_self, String.reduceEq, Bool.or_false, Bool.false_or, Bool.or_true, Bool.true_or, Bool.and_true, Bool.true_and, Bool.and_false, Bool.false_and, reduceIte, beq_self_eq_true, List.length_cons, List.length_nil, s_is_within, h1, h2]
  simp
theorem s_holds_in (k : Nat) (rs : Rws) (m : Mem) (h : rs.length ≤ 1000) : callN P (k+1) 5 [.tup (rs.map pairT)] m = .ok (.int (rs.map (·.2)).sum, m) := eq_of <| by
  rw [u5]
  simp only [b5, w_var, w_const, w_glob, w_op, w_nil, w_cons, w_tst, w_and, w_or, w_ife, w_chain, w_slc, w_lc, w_meth, w_meth2, w_ifs0, w_ifs1, w_over, w_range1, w_range2, w_enum, w_zip, w_expr, w_assign, w_par, w_aug, w_setIx, w_retE, w_retN, w_if, w_while, w_for, w_pass, w_brk, w_cont, w_bad, w_snil, w_scons, p_call, p_tup, p_mkT, p_mkLt, p_mkLf, p_lst, p_addI, p_addT, p_addS, p_addL, p_sub, p_mul, p_fdiv, p_mod, p_pow, p_neg, p_not, p_lt, p_le, p_gt, p_ge, p_isN, p_isnotN, p_isB, p_isnotB, p_eqI, p_neI, p_eqB, p_neB, p_len, p_lenL, p_lenC, p_ixC, p_ixT, p_ixL, p_ixR, p_max2, p_min2, p_abs, p_intI, p_intB, p_tupOf, p_listOf, p_sum, p_all, p_any, p_isI, p_isC, s_int, s_bl, s_tup, s_lst, s_str, s_non, s_ins, p_in, p_notin, t_bl, t_int, t_non, t_tup, t_lst, i_tup, i_lst, l_lst, ii_int, ii_bl, ii_tup, ii_lst, ii_str, ii_non, a_name, a_tup, a_nil, a_cons, sa_nil, sa_cons, i_at0, i_at1, i_at2, i_setR, i_ix30, i_ix31, i_ix32, i_lowI, i_lowB, i_lowN, i_lowT, p_eqT, p_neT, p_slT, p_slF, p_sl3, k_tup, k_lst, k_int, k_ins, p_app, i_isTt, i_isTl, i_isTr, l_len0, l_len1, l_len2, l_len3, l_len4, l_len5, l_len6, l_len7, l_len8, l_len9, l_len10, l_len11, l_len12, p_mulL, p_back, p_slLt, p_slLf, w_asgG, w_gName, w_gIx, w_gAttr, w_gTup, w_gNil, w_gCons, w_setAttr, p_neTP, p_eqTP, p_eqLI, p_neLI, i_recvI, Ok_ok, Ok_bad, OkS_ok, OkS_bad, OkS_then, onN_nx, onN_rt, onN_bk, onN_ct, onT_nx, onT_ct, onT_bk, onT_rt, onR_nx, onR_rt, Ok_ret, List.getElem?_cons_zero, List.getElem?_cons_succ, List.set_cons_zero, List.set_cons_succ, cut_same, Option.some.injEq, exists_eq_left', exists_eq_left, D.int.injEq, D.bl.injEq, D.tup.injEq, D.lst.injEq, D.ref.injEq, Cell.lst.injEq, Option.bind_some, Option.map_some, Bool.not_true, Bool.not_false, if_true, if_false, Bool.false_eq_true, reduceCtorEq, decide_true, decide_false, true_and, and_true, Prod.mk.injEq, and_self, String.reduceEq, Bool.or_false, Bool.false_or, Bool.or_true, Bool.true_or, Bool.and_true, Bool.true_and, Bool.and_false, Bool.false_and, reduceIte, beq_self_eq_true, List.length_map]
  refine ⟨lim40 h, lc_map pairT (fun p => .int p.2) rfl (fun _ => rfl) (fun p hp => ⟨_, rfl, ?_⟩) ?_⟩
  · simp only [w_var, w_const, w_glob, w_op, w_nil, w_cons, w_tst, w_and, w_or, w_ife, w_chain, w_slc, w_lc, w_meth, w_meth2, w_ifs0, w_ifs1, w_over, w_range1, w_range2, w_enum, w_zip, w_expr, w_assign, w_par, w_aug, w_setIx, w_retE, w_retN, w_if, w_while, w_for, w_pass, w_brk, w_cont, w_bad, w_snil, w_scons, p_call, p_tup, p_mkT, p_mkLt, p_mkLf, p_lst, p_addI, p_addT, p_addS, p_addL, p_sub, p_mul, p_fdiv, p_mod, p_pow, p_neg, p_not, p_lt, p_le, p_gt, p_ge, p_isN, p_isnotN, p_isB, p_isnotB, p_eqI, p_neI, p_eqB, p_neB, p_len, p_lenL, p_lenC, p_ixC, p_ixT, p_ixL, p_ixR, p_max2, p_min2, p_abs, p_intI, p_intB, p_tupOf, p_listOf, p_sum, p_all, p_any, p_isI, p_isC, s_int, s_bl, s_tup, s_lst, s_str, s_non, s_ins, p_in, p_notin, t_bl, t_int, t_non, t_tup, t_lst, i_tup, i_lst, l_lst, ii_int, ii_bl, ii_tup, ii_lst, ii_str, ii_non, a_name, a_tup, a_nil, a_cons, sa_nil, sa_cons, i_at0, i_at1, i_at2, i_setR, i_ix30, i_ix31, i_ix32, i_lowI, i_lowB, i_lowN, i_lowT, p_eqT, p_neT, p_slT, p_slF, p_sl3, k_tup, k_lst, k_int, k_ins, p_app, i_isTt, i_isTl, i_isTr, l_len0, l_len1, l_len2, l_len3, l_len4, l_len5, l_len6, l_len7, l_len8, l_len9, l_len10, l_len11, l_len12, p_mulL, p_back, p_slLt, p_slLf, w_asgG, w_gName, w_gIx, w_gAttr, w_gTup, w_gNil, w_gCons, w_setAttr, p_neTP, p_eqTP, p_eqLI, p_neLI, i_recvI, Ok_ok, Ok_bad, OkS_ok, OkS_bad, OkS_then, onN_nx, onN_rt, onN_bk, onN_ct, onT_nx, onT_ct, onT_bk, onT_rt, onR_nx, onR_rt, Ok_ret, List.getElem?_cons_zero, List.getElem?_cons_succ, List.set_cons_zero, List.set_cons_succ, cut_same, Option.some.injEq, exists_eq_left', exists_eq_left, D.int.injEq, D.bl.injEq, D.tup.injEq, D.lst.injEq, D.ref.injEq, Cell.lst.injEq, Option.bind_some, Option.map_some, Bool.not_true, Bool.not_false, if_true, if_false, Bool.false_eq_true, reduceCtorEq, decide_true, decide_false, true_and, and_true, Prod.mk.injEq, and_self, String.reduceEq, Bool.or_false, Bool.false_or, Bool.or_true, Bool.true_or, Bool.and_true, Bool.true_and, Bool.and_false, Bool.false_and, reduceIte, beq_self_eq_true, wipeE]
  · simp only [w_var, w_const, w_glob, w_op, w_nil, w_cons, w_tst, w_and, w_or, w_ife, w_chain, w_slc, w_lc, w_meth, w_meth2, w_ifs0, w_ifs1, w_over, w_range1, w_range2, w_enum, w_zip, w_expr, w_assign, w_par, w_aug, w_setIx, w_retE, w_retN, w_if, w_while, w_for, w_pass, w_brk, w_cont, w_bad, w_snil, w_scons, p_call, p_tup, p_mkT, p_mkLt, p_mkLf, p_lst, p_addI, p_addT, p_addS, p_addL, p_sub, p_mul, p_fdiv, p_mod, p_pow, p_neg, p_not, p_lt, p_le, p_gt, p_ge, p_isN, p_isnotN, p_isB, p_isnotB, p_eqI, p_neI, p_eqB, p_neB, p_len, p_lenL, p_lenC, p_ixC, p_ixT, p_ixL, p_ixR, p_max2, p_min2, p_abs, p_intI, p_intB, p_tupOf, p_listOf, p_sum, p_all, p_any, p_isI, p_isC, s_int, s_bl, s_tup, s_lst, s_str, s_non, s_ins, p_in, p_notin, t_bl, t_int, t_non, t_tup, t_lst, i_tup, i_lst, l_lst, ii_int, ii_bl, ii_tup, ii_lst, ii_str, ii_non, a_name, a_tup, a_nil, a_cons, sa_nil, sa_cons, i_at0, i_at1, i_at2, i_setR, i_ix30, i_ix31, i_ix32, i_lowI, i_lowB, i_lowN, i_lowT, p_eqT, p_neT, p_slT, p_slF, p_sl3, k_tup, k_lst, k_int, k_ins, p_app, i_isTt, i_isTl, i_isTr, l_len0, l_len1, l_len2, l_len3, l_len4, l_len5, l_len6, l_len7, l_len8, l_len9, l_len10, l_len11, l_len12, p_mulL, p_back, p_slLt, p_slLf, w_asgG, w_gName, w_gIx, w_gAttr, w_gTup, w_gNil, w_gCons, w_setAttr, p_neTP, p_eqTP, p_eqLI, p_neLI, i_recvI, Ok_ok, Ok_bad, OkS_ok, OkS_bad, OkS_then, onN_nx, onN_rt, onN_bk, onN_ct, onT_nx, onT_ct, onT_bk, onT_rt, onR_nx, onR_rt, Ok_ret, List.getElem?_cons_zero, List.getElem?_cons_succ, List.set_cons_zero, List.set_cons_succ, cut_same, Option.some.injEq, exists_eq_left', exists_eq_left, D.int.injEq, D.bl.injEq, D.tup.injEq, D.lst.injEq, D.ref.injEq, Cell.lst.injEq, Option.bind_some, Option.map_some, Bool.not_true, Bool.not_false, if_true, if_false, Bool.false_eq_true, reduceCtorEq, decide_true, decide_false, true_and, and_true, Prod.mk.injEq, and_self, String.reduceEq, Bool.or_false, Bool.false_or, Bool.or_true, Bool.true_or, Bool.and_true, Bool.true_and, Bool.and_false, Bool.false_and, reduceIte, beq_self_eq_true, List.length_map, intsD_mapF]
    exact lim40 h
theorem s_room_in (k : Nat) (rs : Rws) (m : Mem) (h : rs.length ≤ 1000) (hs : ∀ p ∈ rs, Sm p.1 = true ∧ Sm p.2 = true) : callN P (k+1) 6 [.tup (rs.map pairT)] m = .ok (.int (rsum id rs), m) := eq_of <| by
  rw [u6]
  simp only [b6, w_var, w_const, w_glob, w_op, w_nil, w_cons, w_tst, w_and, w_or, w_ife, w_chain, w_slc, w_lc, w_meth, w_meth2, w_ifs0, w_ifs1, w_over, w_range1, w_range2, w_enum, w_zip, w_expr, w_assign, w_par, w_aug, w_setIx, w_retE, w_retN, w_if, w_while, w_for, w_pass, w_brk, w_cont, w_bad, w_snil, w_scons, p_call, p_tup, p_mkT, p_mkLt, p_mkLf, p_lst, p_addI, p_addT, p_addS, p_addL, p_sub, p_mul, p_fdiv, p_mod, p_pow, p_neg, p_not, p_lt, p_le, p_gt, p_ge, p_isN, p_isnotN, p_isB, p_isnotB, p_eqI, p_neI, p_eqB, p_neB, p_len, p_lenL, p_lenC, p_ixC, p_ixT, p_ixL, p_ixR, p_max2, p_min2, p_abs, p_intI, p_intB, p_tupOf, p_listOf, p_sum, p_all, p_any, p_isI, p_isC, s_int, s_bl, s_tup, s_lst, s_str, s_non, s_ins, p_in, p_notin, t_bl, t_int, t_non, t_tup, t_lst, i_tup, i_lst, l_lst, ii_int, ii_bl, ii_tup, ii_lst, ii_str, ii_non, a_name, a_tup, a_nil, a_cons, sa_nil, sa_cons, i_at0, i_at1, i_at2, i_setR, i_ix30, i_ix31, i_ix32, i_lowI, i_lowB, i_lowN, i_lowT, p_eqT, p_neT, p_slT, p_slF, p_sl3, k_tup, k_lst, k_int, k_ins, p_app, i_isTt, i_isTl, i_isTr, l_len0, l_len1, l_len2, l_len3, l_len4, l_len5, l_len6, l_len7, l_len8, l_len9, l_len10, l_len11, l_len12, p_mulL, p_back, p_slLt, p_slLf, w_asgG, w_gName, w_gIx, w_gAttr, w_gTup, w_gNil, w_gCons, w_setAttr, p_neTP, p_eqTP, p_eqLI, p_neLI, i_recvI, Ok_ok, Ok_bad, OkS_ok, OkS_bad, OkS_then, onN_nx, onN_rt, onN_bk, onN_ct, onT_nx, onT_ct, onT_bk, onT_rt, onR_nx, onR_rt, Ok_ret, List.getElem?_cons_zero, List.getElem?_cons_succ, List.set_cons_zero, List.set_cons_succ, cut_same, Option.some.injEq, exists_eq_left', exists_eq_left, D.int.injEq, D.bl.injEq, D.tup.injEq, D.lst.injEq, D.ref.injEq, Cell.lst.injEq, Option.bind_some, Option.map_some, Bool.not_true, Bool.not_false, if_true, if_false, Bool.false_eq_true, reduceCtorEq, decide_true, decide_false, true_and, and_true, Prod.mk.injEq, and_self, String.reduceEq, Bool.or_false, Bool.false_or, Bool.or_true, Bool.true_or, Bool.and_true, Bool.true_and, Bool.and_false, Bool.false_and, reduceIte, beq_self_eq_true, List.length_map]
  refine ⟨lim40 h, lc_map pairT (fun p => .int (p.1 * p.2)) rfl (fun _ => rfl) (fun p hp => ⟨_, rfl, ?_⟩) ?_⟩
  · simp only [w_var, w_const, w_glob, w_op, w_nil, w_cons, w_tst, w_and, w_or, w_ife, w_chain, w_slc, w_lc, w_meth, w_meth2, w_ifs0, w_ifs1, w_over, w_range1, w_range2, w_enum, w_zip, w_expr, w_assign, w_par, w_aug, w_setIx, w_retE, w_retN, w_if, w_while, w_for, w_pass, w_brk, w_cont, w_bad, w_snil, w_scons, p_call, p_tup, p_mkT, p_mkLt, p_mkLf, p_lst, p_addI, p_addT, p_addS, p_addL, p_sub, p_mul, p_fdiv, p_mod, p_pow, p_neg, p_not, p_lt, p_le, p_gt, p_ge, p_isN, p_isnotN, p_isB, p_isnotB, p_eqI, p_neI, p_eqB, p_neB, p_len, p_lenL, p_lenC, p_ixC, p_ixT, p_ixL, p_ixR, p_max2, p_min2, p_abs, p_intI, p_intB, p_tupOf, p_listOf, p_sum, p_all, p_any, p_isI, p_isC, s_int, s_bl, s_tup, s_lst, s_str, s_non, s_ins, p_in, p_notin, t_bl, t_int, t_non, t_tup, t_lst, i_tup, i_lst, l_lst, ii_int, ii_bl, ii_tup, ii_lst, ii_str, ii_non, a_name, a_tup, a_nil, a_cons, sa_nil, sa_cons, i_at0, i_at1, i_at2, i_setR, i_ix30, i_ix31, i_ix32, i_lowI, i_lowB, i_lowN, i_lowT, p_eqT, p_neT, p_slT, p_slF, p_sl3, k_tup, k_lst, k_int, k_ins, p_app, i_isTt, i_isTl, i_isTr, l_len0, l_len1, l_len2, l_len3, l_len4, l_len5, l_len6, l_len7, l_len8, l_len9, l_len10, l_len11, l_len12, p_mulL, p_back, p_slLt, p_slLf, w_asgG, w_gName, w_gIx, w_gAttr, w_gTup, w_gNil, w_gCons, w_setAttr, p_neTP, p_eqTP, p_eqLI, p_neLI, i_recvI, Ok_ok, Ok_bad, OkS_ok, OkS_bad, OkS_then, onN_nx, onN_rt, onN_bk, onN_ct, onT_nx, onT_ct, onT_bk, onT_rt, onR_nx, onR_rt, Ok_ret, List.getElem?_cons_zero, List.getElem?_cons_succ, List.set_cons_zero, List.set_cons_succ, cut_same, Option.some.injEq, exists_eq_left', exists_eq_left, D.int.injEq, D.bl.injEq, D.tup.injEq, D.lst.injEq, D.ref.injEq, Cell.lst.injEq, Option.bind_some, Option.map_some, Bool.not_true, Bool.not_false, if_true, if_false, Bool.false_eq_true, reduceCtorEq, decide_true, decide_false, true_and, and_true, Prod.mk.injEq, and_self, String.reduceEq, Bool.or_false, Bool.false_or, Bool.or_true, Bool.true_or, Bool.and_true, Bool.true_and, Bool.and_false, Bool.false_and, reduceIte, beq_self_eq_true, wipeE, mulS (hs p hp).1 (hs p hp).2]
  · simp only [w_var, w_const, w_glob, w_op, w_nil, w_cons, w_tst, w_and, w_or, w_ife, w_chain, w_slc, w_lc, w_meth, w_meth2, w_ifs0, w_ifs1, w_over, w_range1, w_range2, w_enum, w_zip, w_expr, w_assign, w_par, w_aug, w_setIx, w_retE, w_retN, w_if, w_while, w_for, w_pass, w_brk, w_cont, w_bad, w_snil, w_scons, p_call, p_tup, p_mkT, p_mkLt, p_mkLf, p_lst, p_addI, p_addT, p_addS, p_addL, p_sub, p_mul, p_fdiv, p_mod, p_pow, p_neg, p_not, p_lt, p_le, p_gt, p_ge, p_isN, p_isnotN, p_isB, p_isnotB, p_eqI, p_neI, p_eqB, p_neB, p_len, p_lenL, p_lenC, p_ixC, p_ixT, p_ixL, p_ixR, p_max2, p_min2, p_abs, p_intI, p_intB, p_tupOf, p_listOf, p_sum, p_all, p_any, p_isI, p_isC, s_int, s_bl, s_tup, s_lst, s_str, s_non, s_ins, p_in, p_notin, t_bl, t_int, t_non, t_tup, t_lst, i_tup, i_lst, l_lst, ii_int, ii_bl, ii_tup, ii_lst, ii_str, ii_non, a_name, a_tup, a_nil, a_cons, sa_nil, sa_cons, i_at0, i_at1, i_at2, i_setR, i_ix30, i_ix31, i_ix32, i_lowI, i_lowB, i_lowN, i_lowT, p_eqT, p_neT, p_slT, p_slF, p_sl3, k_tup, k_lst, k_int, k_ins, p_app, i_isTt, i_isTl, i_isTr, l_len0, l_len1, l_len2, l_len3, l_len4, l_len5, l_len6, l_len7, l_len8, l_len9, l_len10, l_len11, l_len12, p_mulL, p_back, p_slLt, p_slLf, w_asgG, w_gName, w_gIx, w_gAttr, w_gTup, w_gNil, w_gCons, w_setAttr, p_neTP, p_eqTP, p_eqLI, p_neLI, i_recvI, Ok_ok, Ok_bad, OkS_ok, OkS_bad, OkS_then, onN_nx, onN_rt, onN_bk, onN_ct, onT_nx, onT_ct, onT_bk, onT_rt, onR_nx, onR_rt, Ok_ret, List.getElem?_cons_zero, List.getElem?_cons_succ, List.set_cons_zero, List.set_cons_succ, cut_same, Option.some.injEq, exists_eq_left', exists_eq_left, D.int.injEq, D.bl.injEq, D.tup.injEq, D.lst.injEq, D.ref.injEq, Cell.lst.injEq, Option.bind_some, Option.map_some, Bool.not_true, Bool.not_false, if_true, if_false, Bool.false_eq_true, reduceCtorEq, decide_true, decide_false, true_and, and_true, Prod.mk.injEq, and_self, String.reduceEq, Bool.or_false, Bool.false_or, Bool.or_true, Bool.true_or, Bool.and_true, Bool.true_and, Bool.and_false, Bool.false_and, reduceIte, beq_self_eq_true, List.length_map, intsD_mapF]
    exact ⟨lim40 h, rfl⟩
theorem RowsOk.sm {rs : Rws} (h : RowsOk rs) : ∀ p ∈ rs, Sm p.1 = true ∧ Sm p.2 = true := fun p hp => by
  have := h.all p hp
  exact ⟨sm60 (by omega) (by omega), sm60 (by omega) (by omega)⟩
theorem s_are_rows (k : Nat) {rs : Rws} (m : Mem) (h : RowsOk rs) : callN P (k+4) 7 [.tup (rs.map pairT)] m = .ok (.bl true, m) := eq_of <| by
  rw [u7]
  have hl : ¬ (200 : Int) < rs.length := by have := h.len; omega
  simp only [b7x1, b7t1, b7, c2, w_var, w_const, w_glob, w_op, w_nil, w_cons, w_tst, w_and, w_or, w_ife, w_chain, w_slc, w_lc, w_meth, w_meth2, w_ifs0, w_ifs1, w_over, w_range1, w_range2, w_enum, w_zip, w_expr, w_assign, w_par, w_aug, w_setIx, w_retE, w_retN, w_if, w_while, w_for, w_pass, w_brk, w_cont, w_bad, w_snil, w_scons, p_call, p_tup, p_mkT, p_mkLt, p_mkLf, p_lst, p_addI, p_addT, p_addS, p_addL, p_sub, p_mul, p_fdiv, p_mod, p_pow, p_neg, p_not, p_lt, p_le, p_gt, p_ge, p_isN, p_isnotN, p_isB, p_isnotB, p_eqI, p_neI, p_eqB, p_neB, p_len, p_lenL, p_lenC, p_ixC, p_ixT, p_ixL, p_ixR, p_max2, p_min2, p_abs, p_intI, p_intB, p_tupOf, p_listOf, p_sum, p_all, p_any, p_isI, p_isC, s_int, s_bl, s_tup, s_lst, s_str, s_non, s_ins, p_in, p_notin, t_bl, t_int, t_non, t_tup, t_lst, i_tup, i_lst, l_lst, ii_int, ii_bl, ii_tup, ii_lst, ii_str, ii_non, a_name, a_tup, a_nil, a_cons, sa_nil, sa_cons, i_at0, i_at1, i_at2, i_setR, i_ix30, i_ix31, i_ix32, i_lowI, i_lowB, i_lowN, i_lowT, p_eqT, p_neT, p_slT, p_slF, p_sl3, k_tup, k_lst, k_int, k_ins, p_app, i_isTt, i_isTl, i_isTr, l_len0, l_len1, l_len2, l_len3, l_len4, l_len5, l_len6, l_len7, l_len8, l_len9, l_len10, l_len11, l_len12, p_mulL, p_back, p_slLt, p_slLf, w_asgG, w_gName, w_gIx, w_gAttr, w_gTup, w_gNil, w_gCons, w_setAttr, p_neTP, p_eqTP, p_eqLI, p_neLI, i_recvI, Ok_ok, Ok_bad, OkS_ok, OkS_bad, OkS_then, onN_nx, onN_rt, onN_bk, onN_ct, onT_nx, onT_ct, onT_bk, onT_rt, onR_nx, onR_rt, Ok_ret, List.getElem?_cons_zero, List.getElem?_cons_succ, List.set_cons_zero, List.set_cons_succ, cut_same, Option.some.injEq, exists_eq_left', exists_eq_left, D.int.injEq, D.bl.injEq, D.tup.injEq, D.lst.injEq, D.ref.injEq, Cell.lst.injEq, Option.bind_some, Option.map_some, Bool.not_true, Bool.not_false, if_true, if_false, Bool.false_eq_true, reduceCtorEq, decide_true, decide_false, true_and, and_true, Prod.mk.injEq, and_self, String.reduceEq, Bool.or_false, Bool.false_or, Bool.or_true, Bool.true_or, Bool.and_true, Bool.true_and, Bool.and_false, Bool.false_and, reduceIte, beq_self_eq_true, List.length_map, hl]
  refine ⟨lim40 (by have := h.len; omega), lc_map pairT (fun _ => .bl true) rfl (fun _ => rfl) (fun p hp => ⟨_, rfl, ?_⟩) ?_⟩
  · have := h.all p hp
    simp only [w_var, w_const, w_glob, w_op, w_nil, w_cons, w_tst, w_and, w_or, w_ife, w_chain, w_slc, w_lc, w_meth, w_meth2, w_ifs0, w_ifs1, w_over, w_range1, w_range2, w_enum, w_zip, w_expr, w_assign, w_par, w_aug, w_setIx, w_retE, w_retN, w_if, w_while, w_for, w_pass, w_brk, w_cont, w_bad, w_snil, w_scons, p_call, p_tup, p_mkT, p_mkLt, p_mkLf, p_lst, p_addI, p_addT, p_addS, p_addL, p_sub, p_mul, p_fdiv, p_mod, p_pow, p_neg, p_not, p_lt, p_le, p_gt, p_ge, p_isN, p_isnotN, p_isB, p_isnotB, p_eqI, p_neI, p_eqB, p_neB, p_len, p_lenL, p_lenC, p_ixC, p_ixT, p_ixL, p_ixR, p_max2, p_min2, p_abs, p_intI, p_intB, p_tupOf, p_listOf, p_sum, p_all, p_any, p_isI, p_isC, s_int, s_bl, s_tup, s_lst, s_str, s_non, s_ins, p_in, p_notin, t_bl, t_int, t_non, t_tup, t_lst, i_tup, i_lst, l_lst, ii_int, ii_bl, ii_tup, ii_lst, ii_str, ii_non, a_name, a_tup, a_nil, a_cons, sa_nil, sa_cons, i_at0, i_at1, i_at2, i_setR, i_ix30, i_ix31, i_ix32, i_lowI, i_lowB, i_lowN, i_lowT, p_eqT, p_neT, p_slT, p_slF, p_sl3, k_tup, k_lst, k_int, k_ins, p_app, i_isTt, i_isTl, i_isTr, l_len0, l_len1, l_len2, l_len3, l_len4, l_len5, l_len6, l_len7, l_len8, l_len9, l_len10, l_len11, l_len12, p_mulL, p_back, p_slLt, p_slLf, w_asgG, w_gName, w_gIx, w_gAttr, w_gTup, w_gNil, w_gCons, w_setAttr, p_neTP, p_eqTP, p_eqLI, p_neLI, i_recvI, Ok_ok, Ok_bad, OkS_ok, OkS_bad, OkS_then, onN_nx, onN_rt, onN_bk, onN_ct, onT_nx, onT_ct, onT_bk, onT_rt, onR_nx, onR_rt, Ok_ret, List.getElem?_cons_zero, List.getElem?_cons_succ, List.set_cons_zero, List.set_cons_succ, cut_same, Option.some.injEq, exists_eq_left', exists_eq_left, D.int.injEq, D.bl.injEq, D.tup.injEq, D.lst.injEq, D.ref.injEq, Cell.lst.injEq, Option.bind_some, Option.map_some, Bool.not_true, Bool.not_false, if_true, if_false, Bool.false_eq_true, reduceCtorEq, decide_true, decide_false, true_and, and_true, Prod.mk.injEq, and_self, String.reduceEq, Bool.or_false, Bool.false_or, Bool.or_true, Bool.true_or, Bool.and_true, Bool.true_and, Bool.and_false, Bool.false_and, reduceIte, beq_self_eq_true, wipeE, s_is_row k _ this.1 this.2]
  · simp only [w_var, w_const, w_glob, w_op, w_nil, w_cons, w_tst, w_and, w_or, w_ife, w_chain, w_slc, w_lc, w_meth, w_meth2, w_ifs0, w_ifs1, w_over, w_range1, w_range2, w_enum, w_zip, w_expr, w_assign, w_par, w_aug, w_setIx, w_retE, w_retN, w_if, w_while, w_for, w_pass, w_brk, w_cont, w_bad, w_snil, w_scons, p_call, p_tup, p_mkT, p_mkLt, p_mkLf, p_lst, p_addI, p_addT, p_addS, p_addL, p_sub, p_mul, p_fdiv, p_mod, p_pow, p_neg, p_not, p_lt, p_le, p_gt, p_ge, p_isN, p_isnotN, p_isB, p_isnotB, p_eqI, p_neI, p_eqB, p_neB, p_len, p_lenL, p_lenC, p_ixC, p_ixT, p_ixL, p_ixR, p_max2, p_min2, p_abs, p_intI, p_intB, p_tupOf, p_listOf, p_sum, p_all, p_any, p_isI, p_isC, s_int, s_bl, s_tup, s_lst, s_str, s_non, s_ins, p_in, p_notin, t_bl, t_int, t_non, t_tup, t_lst, i_tup, i_lst, l_lst, ii_int, ii_bl, ii_tup, ii_lst, ii_str, ii_non, a_name, a_tup, a_nil, a_cons, sa_nil, sa_cons, i_at0, i_at1, i_at2, i_setR, i_ix30, i_ix31, i_ix32, i_lowI, i_lowB, i_lowN, i_lowT, p_eqT, p_neT, p_slT, p_slF, p_sl3, k_tup, k_lst, k_int, k_ins, p_app, i_isTt, i_isTl, i_isTr, l_len0, l_len1, l_len2, l_len3, l_len4, l_len5, l_len6, l_len7, l_len8, l_len9, l_len10, l_len11, l_len12, p_mulL, p_back, p_slLt, p_slLf, w_asgG, w_gName, w_gIx, w_gAttr, w_gTup, w_gNil, w_gCons, w_setAttr, p_neTP, p_eqTP, p_eqLI, p_neLI, i_recvI, Ok_ok, Ok_bad, OkS_ok, OkS_bad, OkS_then, onN_nx, onN_rt, onN_bk, onN_ct, onT_nx, onT_ct, onT_bk, onT_rt, onR_nx, onR_rt, Ok_ret, List.getElem?_cons_zero, List.getElem?_cons_succ, List.set_cons_zero, List.set_cons_succ, cut_same, Option.some.injEq, exists_eq_left', exists_eq_left, D.int.injEq, D.bl.injEq, D.tup.injEq, D.lst.injEq, D.ref.injEq, Cell.lst.injEq, Option.bind_some, Option.map_some, Bool.not_true, Bool.not_false, if_true, if_false, Bool.false_eq_true, reduceCtorEq, decide_true, decide_false, true_and, and_true, Prod.mk.injEq, and_self, String.reduceEq, Bool.or_false, Bool.false_or, Bool.or_true, Bool.true_or, Bool.and_true, Bool.true_and, Bool.and_false, Bool.false_and, reduceIte, beq_self_eq_true, List.length_map, boolsD_mapF]
    refine ⟨lim40 (by have := h.len; omega), ?_⟩
    rw [allB fun _ _ => rfl]
    simp only [w_var, w_const, w_glob, w_op, w_nil, w_cons, w_tst, w_and, w_or, w_ife, w_chain, w_slc, w_lc, w_meth, w_meth2, w_ifs0, w_ifs1, w_over, w_range1, w_range2, w_enum, w_zip, w_expr, w_assign, w_par, w_aug, w_setIx, w_retE, w_retN, w_if, w_while, w_for, w_pass, w_brk, w_cont, w_bad, w_snil, w_scons, p_call, p_tup, p_mkT, p_mkLt, p_mkLf, p_lst, p_addI, p_addT, p_addS, p_addL, p_sub, p_mul, p_fdiv, p_mod, p_pow, p_neg, p_not, p_lt, p_le, p_gt, p_ge, p_isN, p_isnotN, p_isB, p_isnotB, p_eqI, p_neI, p_eqB, p_neB, p_len, p_lenL, p_lenC, p_ixC, p_ixT, p_ixL, p_ixR, p_max2, p_min2, p_abs, p_intI, p_intB, p_tupOf, p_listOf, p_sum, p_all, p_any, p_isI, p_isC, s_int, s_bl, s_tup, s_lst, s_str, s_non, s_ins, p_in, p_notin, t_bl, t_int, t_non, t_tup, t_lst, i_tup, i_lst, l_lst, ii_int, ii_bl, ii_tup, ii_lst, ii_str, ii_non, a_name, a_tup, a_nil, a_cons, sa_nil, sa_cons, i_at0, i_at1, i_at2, i_setR, i_ix30, i_ix31, i_ix32, i_lowI, i_lowB, i_lowN, i_lowT, p_eqT, p_neT, p_slT, p_slF, p_sl3, k_tup, k_lst, k_int, k_ins, p_app, i_isTt, i_isTl, i_isTr, l_len0, l_len1, l_len2, l_len3, l_len4, l_len5, l_len6, l_len7, l_len8, l_len9, l_len10, l_len11, l_len12, p_mulL, p_back, p_slLt, p_slLf, w_asgG, w_gName, w_gIx, w_gAttr, w_gTup, w_gNil, w_gCons, w_setAttr, p_neTP, p_eqTP, p_eqLI, p_neLI, i_recvI, Ok_ok, Ok_bad, OkS_ok, OkS_bad, OkS_then, onN_nx, onN_rt, onN_bk, onN_ct, onT_nx, onT_ct, onT_bk, onT_rt, onR_nx, onR_rt, Ok_ret, List.getElem?_cons_zero, List.getElem?_cons_succ, List.set_cons_zero, List.set_cons_succ, cut_same, Option.some.injEq, exists_eq_left', exists_eq_left, D.int.injEq, D.bl.injEq, D.tup.injEq, D.lst.injEq, D.ref.injEq, Cell.lst.injEq, Option.bind_some, Option.map_some, Bool.not_true, Bool.not_false, if_true, if_false, Bool.false_eq_true, reduceCtorEq, decide_true, decide_false, true_and, and_true, Prod.mk.injEq, and_self, String.reduceEq, Bool.or_false, Bool.false_or, Bool.or_true, Bool.true_or, Bool.and_true, Bool.true_and, Bool.and_false, Bool.false_and, reduceIte, beq_self_eq_true, c_room, s_room_in _ rs _ (by have := h.len; omega) h.sm, h.room]
theorem leanS_len (f : Rws) (p : Int × Int) : (leanS f p).length ≤ f.length + 1 := by
  rcases snoc_cases f with rfl | ⟨a, q, rfl⟩
  · simp [leanS_nil]
  · rw [leanS_snoc]
    split <;> simp
theorem lean_len : ∀ (rs f : Rws), (rs.foldl leanS f).length ≤ f.length + rs.length
  | [], f => by simp
  | p :: rs, f => by
    have h1 := lean_len rs (leanS f p)
    have h2 := leanS_len f p
    simp only [List.foldl_cons, List.length_cons]
    omega
theorem leanR_len (rs : Rws) : (leanR rs).length ≤ rs.length := by
  have := lean_len rs []
  simpa [leanR] using this
theorem lim1000 {n : Nat} (h : n ≤ 1000) : n < LIM := Nat.lt_of_le_of_lt h (show 1000 < 16777216 by decide)
theorem s_lean (k : Nat) (rs : Rws) (m : Mem) (h : rs.length ≤ 1000) : callN P (k+1) 8 [.tup (rs.map pairT)] m = .ok (.tup ((leanR rs).map pairT), m) := eq_of <| by
  rw [u8]
  simp only [b8x2, b8x3, b8x1, b8t2, b8t1, b8, w_var, w_const, w_glob, w_op, w_nil, w_cons, w_tst, w_and, w_or, w_ife, w_chain, w_slc, w_lc, w_meth, w_meth2, w_ifs0, w_ifs1, w_over, w_range1, w_range2, w_enum, w_zip, w_expr, w_assign, w_par, w_aug, w_setIx, w_retE, w_retN, w_if, w_while, w_for, w_pass, w_brk, w_cont, w_bad, w_snil, w_scons, p_call, p_tup, p_mkT, p_mkLt, p_mkLf, p_lst, p_addI, p_addT, p_addS, p_addL, p_sub, p_mul, p_fdiv, p_mod, p_pow, p_neg, p_not, p_lt, p_le, p_gt, p_ge, p_isN, p_isnotN, p_isB, p_isnotB, p_eqI, p_neI, p_eqB, p_neB, p_len, p_lenL, p_lenC, p_ixC, p_ixT, p_ixL, p_ixR, p_max2, p_min2, p_abs, p_intI, p_intB, p_tupOf, p_listOf, p_sum, p_all, p_any, p_isI, p_isC, s_int, s_bl, s_tup, s_lst, s_str, s_non, s_ins, p_in, p_notin, t_bl, t_int, t_non, t_tup, t_lst, i_tup, i_lst, l_lst, ii_int, ii_bl, ii_tup, ii_lst, ii_str, ii_non, a_name, a_tup, a_nil, a_cons, sa_nil, sa_cons, i_at0, i_at1, i_at2, i_setR, i_ix30, i_ix31, i_ix32, i_lowI, i_lowB, i_lowN, i_lowT, p_eqT, p_neT, p_slT, p_slF, p_sl3, k_tup, k_lst, k_int, k_ins, p_app, i_isTt, i_isTl, i_isTr, l_len0, l_len1, l_len2, l_len3, l_len4, l_len5, l_len6, l_len7, l_len8, l_len9, l_len10, l_len11, l_len12, p_mulL, p_back, p_slLt, p_slLf, w_asgG, w_gName, w_gIx, w_gAttr, w_gTup, w_gNil, w_gCons, w_setAttr, p_neTP, p_eqTP, p_eqLI, p_neLI, i_recvI, Ok_ok, Ok_bad, OkS_ok, OkS_bad, OkS_then, onN_nx, onN_rt, onN_bk, onN_ct, onT_nx, onT_ct, onT_bk, onT_rt, onR_nx, onR_rt, Ok_ret, List.getElem?_cons_zero, List.getElem?_cons_succ, List.set_cons_zero, List.set_cons_succ, cut_same, Option.some.injEq, exists_eq_left', exists_eq_left, D.int.injEq, D.bl.injEq, D.tup.injEq, D.lst.injEq, D.ref.injEq, Cell.lst.injEq, Option.bind_some, Option.map_some, Bool.not_true, Bool.not_false, if_true, if_false, Bool.false_eq_true, reduceCtorEq, decide_true, decide_false, true_and, and_true, Prod.mk.injEq, and_self, String.reduceEq, Bool.or_false, Bool.false_or, Bool.or_true, Bool.true_or, Bool.and_true, Bool.true_and, Bool.and_false, Bool.false_and, reduceIte, beq_self_eq_true]
  refine for_ok (fun i ρ m' => ∃ y z, ρ = [some (.tup (rs.map pairT)), some (.ref m.length), y, z] ∧ m' = m ++ [.lst (((rs.take i).foldl leanS []).map pairT)]) ⟨none, none, rfl, rfl⟩ (fun _ _ _ _ => rfl) ?_ ?_
  · rintro i d ρ m' hd ⟨y, z, rfl, rfl⟩
    rw [List.getElem?_map, Option.map_eq_some_iff] at hd
    obtain ⟨p, hp, rfl⟩ := hd
    have hi : i < rs.length := (List.getElem?_eq_some_iff.mp hp).1
    have e : rs.take (i + 1) = rs.take i ++ [p] := by rw [List.take_add_one, hp]; rfl
    rw [e, List.foldl_append]
    simp only [List.foldl_cons, List.foldl_nil]
    have hf : ((rs.take i).foldl leanS []).length < 1000 := by
      have := lean_len (rs.take i) []
      simp at this
      omega
    generalize (rs.take i).foldl leanS [] = f at hf ⊢
    refine ⟨_, rfl, ?_⟩
    have er : recvK (.ref m.length) (m ++ [.lst (f.map pairT)]) = 1 := recv_ref at_app
    simp only [pairT, w_var, w_const, w_glob, w_op, w_nil, w_cons, w_tst, w_and, w_or, w_ife, w_chain, w_slc, w_lc, w_meth, w_meth2, w_ifs0, w_ifs1, w_over, w_range1, w_range2, w_enum, w_zip, w_expr, w_assign, w_par, w_aug, w_setIx, w_retE, w_retN, w_if, w_while, w_for, w_pass, w_brk, w_cont, w_bad, w_snil, w_scons, p_call, p_tup, p_mkT, p_mkLt, p_mkLf, p_lst, p_addI, p_addT, p_addS, p_addL, p_sub, p_mul, p_fdiv, p_mod, p_pow, p_neg, p_not, p_lt, p_le, p_gt, p_ge, p_isN, p_isnotN, p_isB, p_isnotB, p_eqI, p_neI, p_eqB, p_neB, p_len, p_lenL, p_lenC, p_ixC, p_ixT, p_ixL, p_ixR, p_max2, p_min2, p_abs, p_intI, p_intB, p_tupOf, p_listOf, p_sum, p_all, p_any, p_isI, p_isC, s_int, s_bl, s_tup, s_lst, s_str, s_non, s_ins, p_in, p_notin, t_bl, t_int, t_non, t_tup, t_lst, i_tup, i_lst, l_lst, ii_int, ii_bl, ii_tup, ii_lst, ii_str, ii_non, a_name, a_tup, a_nil, a_cons, sa_nil, sa_cons, i_at0, i_at1, i_at2, i_setR, i_ix30, i_ix31, i_ix32, i_lowI, i_lowB, i_lowN, i_lowT, p_eqT, p_neT, p_slT, p_slF, p_sl3, k_tup, k_lst, k_int, k_ins, p_app, i_isTt, i_isTl, i_isTr, l_len0, l_len1, l_len2, l_len3, l_len4, l_len5, l_len6, l_len7, l_len8, l_len9, l_len10, l_len11, l_len12, p_mulL, p_back, p_slLt, p_slLf, w_asgG, w_gName, w_gIx, w_gAttr, w_gTup, w_gNil, w_gCons, w_setAttr, p_neTP, p_eqTP, p_eqLI, p_neLI, i_recvI, Ok_ok, Ok_bad, OkS_ok, OkS_bad, OkS_then, onN_nx, onN_rt, onN_bk, onN_ct, onT_nx, onT_ct, onT_bk, onT_rt, onR_nx, onR_rt, Ok_ret, List.getElem?_cons_zero, List.getElem?_cons_succ, List.set_cons_zero, List.set_cons_succ, cut_same, Option.some.injEq, exists_eq_left', exists_eq_left, D.int.injEq, D.bl.injEq, D.tup.injEq, D.lst.injEq, D.ref.injEq, Cell.lst.injEq, Option.bind_some, Option.map_some, Bool.not_true, Bool.not_false, if_true, if_false, Bool.false_eq_true, reduceCtorEq, decide_true, decide_false, true_and, and_true, Prod.mk.injEq, and_self, String.reduceEq, Bool.or_false, Bool.false_or, Bool.or_true, Bool.true_or, Bool.and_true, Bool.true_and, Bool.and_false, Bool.false_and, reduceIte, beq_self_eq_true, p_neR at_app (pls_pairs 0 f) pl_nil]
    rcases snoc_cases f with rfl | ⟨a, q, rfl⟩
    · simp only [List.map_nil, w_var, w_const, w_glob, w_op, w_nil, w_cons, w_tst, w_and, w_or, w_ife, w_chain, w_slc, w_lc, w_meth, w_meth2, w_ifs0, w_ifs1, w_over, w_range1, w_range2, w_enum, w_zip, w_expr, w_assign, w_par, w_aug, w_setIx, w_retE, w_retN, w_if, w_while, w_for, w_pass, w_brk, w_cont, w_bad, w_snil, w_scons, p_call, p_tup, p_mkT, p_mkLt, p_mkLf, p_lst, p_addI, p_addT, p_addS, p_addL, p_sub, p_mul, p_fdiv, p_mod, p_pow, p_neg, p_not, p_lt, p_le, p_gt, p_ge, p_isN, p_isnotN, p_isB, p_isnotB, p_eqI, p_neI, p_eqB, p_neB, p_len, p_lenL, p_lenC, p_ixC, p_ixT, p_ixL, p_ixR, p_max2, p_min2, p_abs, p_intI, p_intB, p_tupOf, p_listOf, p_sum, p_all, p_any, p_isI, p_isC, s_int, s_bl, s_tup, s_lst, s_str, s_non, s_ins, p_in, p_notin, t_bl, t_int, t_non, t_tup, t_lst, i_tup, i_lst, l_lst, ii_int, ii_bl, ii_tup, ii_lst, ii_str, ii_non, a_name, a_tup, a_nil, a_cons, sa_nil, sa_cons, i_at0, i_at1, i_at2, i_setR, i_ix30, i_ix31, i_ix32, i_lowI, i_lowB, i_lowN, i_lowT, p_eqT, p_neT, p_slT, p_slF, p_sl3, k_tup, k_lst, k_int, k_ins, p_app, i_isTt, i_isTl, i_isTr, l_len0, l_len1, l_len2, l_len3, l_len4, l_len5, l_len6, l_len7, l_len8, l_len9, l_len10, l_len11, l_len12, p_mulL, p_back, p_slLt, p_slLf, w_asgG, w_gName, w_gIx, w_gAttr, w_gTup, w_gNil, w_gCons, w_setAttr, p_neTP, p_eqTP, p_eqLI, p_neLI, i_recvI, Ok_ok, Ok_bad, OkS_ok, OkS_bad, OkS_then, onN_nx, onN_rt, onN_bk, onN_ct, onT_nx, onT_ct, onT_bk, onT_rt, onR_nx, onR_rt, Ok_ret, List.getElem?_cons_zero, List.getElem?_cons_succ, List.set_cons_zero, List.set_cons_succ, cut_same, Option.some.injEq, exists_eq_left', exists_eq_left, D.int.injEq, D.bl.injEq, D.tup.injEq, D.lst.injEq, D.ref.injEq, Cell.lst.injEq, Option.bind_some, Option.map_some, Bool.not_true, Bool.not_false, if_true, if_false, Bool.false_eq_true, reduceCtorEq, decide_true, decide_false, true_and, and_true, Prod.mk.injEq, and_self, String.reduceEq, Bool.or_false, Bool.false_or, Bool.or_true, Bool.true_or, Bool.and_true, Bool.true_and, Bool.and_false, Bool.false_and, reduceIte, beq_self_eq_true, leanS_nil] at er ⊢
      exact ⟨er, [], at_app, lim1000 (by decide), _, _, rfl, by rw [set_app]; rfl⟩
    · simp only [List.map_append, List.map_cons, List.map_nil, pairT, at_app, at_last, w_var, w_const, w_glob, w_op, w_nil, w_cons, w_tst, w_and, w_or, w_ife, w_chain, w_slc, w_lc, w_meth, w_meth2, w_ifs0, w_ifs1, w_over, w_range1, w_range2, w_enum, w_zip, w_expr, w_assign, w_par, w_aug, w_setIx, w_retE, w_retN, w_if, w_while, w_for, w_pass, w_brk, w_cont, w_bad, w_snil, w_scons, p_call, p_tup, p_mkT, p_mkLt, p_mkLf, p_lst, p_addI, p_addT, p_addS, p_addL, p_sub, p_mul, p_fdiv, p_mod, p_pow, p_neg, p_not, p_lt, p_le, p_gt, p_ge, p_isN, p_isnotN, p_isB, p_isnotB, p_eqI, p_neI, p_eqB, p_neB, p_len, p_lenL, p_lenC, p_ixC, p_ixT, p_ixL, p_ixR, p_max2, p_min2, p_abs, p_intI, p_intB, p_tupOf, p_listOf, p_sum, p_all, p_any, p_isI, p_isC, s_int, s_bl, s_tup, s_lst, s_str, s_non, s_ins, p_in, p_notin, t_bl, t_int, t_non, t_tup, t_lst, i_tup, i_lst, l_lst, ii_int, ii_bl, ii_tup, ii_lst, ii_str, ii_non, a_name, a_tup, a_nil, a_cons, sa_nil, sa_cons, i_at0, i_at1, i_at2, i_setR, i_ix30, i_ix31, i_ix32, i_lowI, i_lowB, i_lowN, i_lowT, p_eqT, p_neT, p_slT, p_slF, p_sl3, k_tup, k_lst, k_int, k_ins, p_app, i_isTt, i_isTl, i_isTr, l_len0, l_len1, l_len2, l_len3, l_len4, l_len5, l_len6, l_len7, l_len8, l_len9, l_len10, l_len11, l_len12, p_mulL, p_back, p_slLt, p_slLf, w_asgG, w_gName, w_gIx, w_gAttr, w_gTup, w_gNil, w_gCons, w_setAttr, p_neTP, p_eqTP, p_eqLI, p_neLI, i_recvI, Ok_ok, Ok_bad, OkS_ok, OkS_bad, OkS_then, onN_nx, onN_rt, onN_bk, onN_ct, onT_nx, onT_ct, onT_bk, onT_rt, onR_nx, onR_rt, Ok_ret, List.getElem?_cons_zero, List.getElem?_cons_succ, List.set_cons_zero, List.set_cons_succ, cut_same, Option.some.injEq, exists_eq_left', exists_eq_left, D.int.injEq, D.bl.injEq, D.tup.injEq, D.lst.injEq, D.ref.injEq, Cell.lst.injEq, Option.bind_some, Option.map_some, Bool.not_true, Bool.not_false, if_true, if_false, Bool.false_eq_true, reduceCtorEq, decide_true, decide_false, true_and, and_true, Prod.mk.injEq, and_self, String.reduceEq, Bool.or_false, Bool.false_or, Bool.or_true, Bool.true_or, Bool.and_true, Bool.true_and, Bool.and_false, Bool.false_and, reduceIte, beq_self_eq_true, List.append_eq_nil_iff, List.cons_ne_nil, and_false] at er ⊢
      have hl : (a.map pairT ++ [D.tup [D.int q.1, D.int q.2]]).length < LIM := by
        refine lim1000 ?_
        simp at hf ⊢
        omega
      by_cases e : q.1 = p.1
      · simp only [e, w_var, w_const, w_glob, w_op, w_nil, w_cons, w_tst, w_and, w_or, w_ife, w_chain, w_slc, w_lc, w_meth, w_meth2, w_ifs0, w_ifs1, w_over, w_range1, w_range2, w_enum, w_zip, w_expr, w_assign, w_par, w_aug, w_setIx, w_retE, w_retN, w_if, w_while, w_for, w_pass, w_brk, w_cont, w_bad, w_snil, w_scons, p_call, p_tup, p_mkT, p_mkLt, p_mkLf, p_lst, p_addI, p_addT, p_addS, p_addL, p_sub, p_mul, p_fdiv, p_mod, p_pow, p_neg, p_not, p_lt, p_le, p_gt, p_ge, p_isN, p_isnotN, p_isB, p_isnotB, p_eqI, p_neI, p_eqB, p_neB, p_len, p_lenL, p_lenC, p_ixC, p_ixT, p_ixL, p_ixR, p_max2, p_min2, p_abs, p_intI, p_intB, p_tupOf, p_listOf, p_sum, p_all, p_any, p_isI, p_isC, s_int, s_bl, s_tup, s_lst, s_str, s_non, s_ins, p_in, p_notin, t_bl, t_int, t_non, t_tup, t_lst, i_tup, i_lst, l_lst, ii_int, ii_bl, ii_tup, ii_lst, ii_str, ii_non, a_name, a_tup, a_nil, a_cons, sa_nil, sa_cons, i_at0, i_at1, i_at2, i_setR, i_ix30, i_ix31, i_ix32, i_lowI, i_lowB, i_lowN, i_lowT, p_eqT, p_neT, p_slT, p_slF, p_sl3, k_tup, k_lst, k_int, k_ins, p_app, i_isTt, i_isTl, i_isTr, l_len0, l_len1, l_len2, l_len3, l_len4, l_len5, l_len6, l_len7, l_len8, l_len9, l_len10, l_len11, l_len12, p_mulL, p_back, p_slLt, p_slLf, w_asgG, w_gName, w_gIx, w_gAttr, w_gTup, w_gNil, w_gCons, w_setAttr, p_neTP, p_eqTP, p_eqLI, p_neLI, i_recvI, Ok_ok, Ok_bad, OkS_ok, OkS_bad, OkS_then, onN_nx, onN_rt, onN_bk, onN_ct, onT_nx, onT_ct, onT_bk, onT_rt, onR_nx, onR_rt, Ok_ret, List.getElem?_cons_zero, List.getElem?_cons_succ, List.set_cons_zero, List.set_cons_succ, cut_same, Option.some.injEq, exists_eq_left', exists_eq_left, D.int.injEq, D.bl.injEq, D.tup.injEq, D.lst.injEq, D.ref.injEq, Cell.lst.injEq, Option.bind_some, Option.map_some, Bool.not_true, Bool.not_false, if_true, if_false, Bool.false_eq_true, reduceCtorEq, decide_true, decide_false, true_and, and_true, Prod.mk.injEq, and_self, String.reduceEq, Bool.or_false, Bool.false_or, Bool.or_true, Bool.true_or, Bool.and_true, Bool.true_and, Bool.and_false, Bool.false_and, reduceIte, beq_self_eq_true, leanS_snoc, ix_last, set_app, set_last, List.map_append, List.map_cons, List.map_nil]
        exact ⟨_, _, rfl, rfl⟩
      · simp only [e, w_var, w_const, w_glob, w_op, w_nil, w_cons, w_tst, w_and, w_or, w_ife, w_chain, w_slc, w_lc, w_meth, w_meth2, w_ifs0, w_ifs1, w_over, w_range1, w_range2, w_enum, w_zip, w_expr, w_assign, w_par, w_aug, w_setIx, w_retE, w_retN, w_if, w_while, w_for, w_pass, w_brk, w_cont, w_bad, w_snil, w_scons, p_call, p_tup, p_mkT, p_mkLt, p_mkLf, p_lst, p_addI, p_addT, p_addS, p_addL, p_sub, p_mul, p_fdiv, p_mod, p_pow, p_neg, p_not, p_lt, p_le, p_gt, p_ge, p_isN, p_isnotN, p_isB, p_isnotB, p_eqI, p_neI, p_eqB, p_neB, p_len, p_lenL, p_lenC, p_ixC, p_ixT, p_ixL, p_ixR, p_max2, p_min2, p_abs, p_intI, p_intB, p_tupOf, p_listOf, p_sum, p_all, p_any, p_isI, p_isC, s_int, s_bl, s_tup, s_lst, s_str, s_non, s_ins, p_in, p_notin, t_bl, t_int, t_non, t_tup, t_lst, i_tup, i_lst, l_lst, ii_int, ii_bl, ii_tup, ii_lst, ii_str, ii_non, a_name, a_tup, a_nil, a_cons, sa_nil, sa_cons, i_at0, i_at1, i_at2, i_setR, i_ix30, i_ix31, i_ix32, i_lowI, i_lowB, i_lowN, i_lowT, p_eqT, p_neT, p_slT, p_slF, p_sl3, k_tup, k_lst, k_int, k_ins, p_app, i_isTt, i_isTl, i_isTr, l_len0, l_len1, l_len2, l_len3, l_len4, l_len5, l_len6, l_len7, l_len8, l_len9, l_len10, l_len11, l_len12, p_mulL, p_back, p_slLt, p_slLf, w_asgG, w_gName, w_gIx, w_gAttr, w_gTup, w_gNil, w_gCons, w_setAttr, p_neTP, p_eqTP, p_eqLI, p_neLI, i_recvI, Ok_ok, Ok_bad, OkS_ok, OkS_bad, OkS_then, onN_nx, onN_rt, onN_bk, onN_ct, onT_nx, onT_ct, onT_bk, onT_rt, onR_nx, onR_rt, Ok_ret, List.getElem?_cons_zero, List.getElem?_cons_succ, List.set_cons_zero, List.set_cons_succ, cut_same, Option.some.injEq, exists_eq_left', exists_eq_left, D.int.injEq, D.bl.injEq, D.tup.injEq, D.lst.injEq, D.ref.injEq, Cell.lst.injEq, Option.bind_some, Option.map_some, Bool.not_true, Bool.not_false, if_true, if_false, Bool.false_eq_true, reduceCtorEq, decide_true, decide_false, true_and, and_true, Prod.mk.injEq, and_self, String.reduceEq, Bool.or_false, Bool.false_or, Bool.or_true, Bool.true_or, Bool.and_true, Bool.true_and, Bool.and_false, Bool.false_and, reduceIte, beq_self_eq_true, leanS_snoc, set_app, List.map_append, List.map_cons, List.map_nil]
        exact ⟨er, hl, _, _, rfl, rfl⟩
  · rintro ρ m' ⟨y, z, rfl, rfl⟩
    rw [List.length_map, List.take_length]
    have ei : itemsOf (m ++ [.lst (((rs.foldl leanS []).map pairT))]) (.ref m.length) = some ((rs.foldl leanS []).map pairT) := i_ref at_app
    simp only [w_var, w_const, w_glob, w_op, w_nil, w_cons, w_tst, w_and, w_or, w_ife, w_chain, w_slc, w_lc, w_meth, w_meth2, w_ifs0, w_ifs1, w_over, w_range1, w_range2, w_enum, w_zip, w_expr, w_assign, w_par, w_aug, w_setIx, w_retE, w_retN, w_if, w_while, w_for, w_pass, w_brk, w_cont, w_bad, w_snil, w_scons, p_call, p_tup, p_mkT, p_mkLt, p_mkLf, p_lst, p_addI, p_addT, p_addS, p_addL, p_sub, p_mul, p_fdiv, p_mod, p_pow, p_neg, p_not, p_lt, p_le, p_gt, p_ge, p_isN, p_isnotN, p_isB, p_isnotB, p_eqI, p_neI, p_eqB, p_neB, p_len, p_lenL, p_lenC, p_ixC, p_ixT, p_ixL, p_ixR, p_max2, p_min2, p_abs, p_intI, p_intB, p_tupOf, p_listOf, p_sum, p_all, p_any, p_isI, p_isC, s_int, s_bl, s_tup, s_lst, s_str, s_non, s_ins, p_in, p_notin, t_bl, t_int, t_non, t_tup, t_lst, i_tup, i_lst, l_lst, ii_int, ii_bl, ii_tup, ii_lst, ii_str, ii_non, a_name, a_tup, a_nil, a_cons, sa_nil, sa_cons, i_at0, i_at1, i_at2, i_setR, i_ix30, i_ix31, i_ix32, i_lowI, i_lowB, i_lowN, i_lowT, p_eqT, p_neT, p_slT, p_slF, p_sl3, k_tup, k_lst, k_int, k_ins, p_app, i_isTt, i_isTl, i_isTr, l_len0, l_len1, l_len2, l_len3, l_len4, l_len5, l_len6, l_len7, l_len8, l_len9, l_len10, l_len11, l_len12, p_mulL, p_back, p_slLt, p_slLf, w_asgG, w_gName, w_gIx, w_gAttr, w_gTup, w_gNil, w_gCons, w_setAttr, p_neTP, p_eqTP, p_eqLI, p_neLI, i_recvI, Ok_ok, Ok_bad, OkS_ok, OkS_bad, OkS_then, onN_nx, onN_rt, onN_bk, onN_ct, onT_nx, onT_ct, onT_bk, onT_rt, onR_nx, onR_rt, Ok_ret, List.getElem?_cons_zero, List.getElem?_cons_succ, List.set_cons_zero, List.set_cons_succ, cut_same, Option.some.injEq, exists_eq_left', exists_eq_left, D.int.injEq, D.bl.injEq, D.tup.injEq, D.lst.injEq, D.ref.injEq, Cell.lst.injEq, Option.bind_some, Option.map_some, Bool.not_true, Bool.not_false, if_true, if_false, Bool.false_eq_true, reduceCtorEq, decide_true, decide_false, true_and, and_true, Prod.mk.injEq, and_self, String.reduceEq, Bool.or_false, Bool.false_or, Bool.or_true, Bool.true_or, Bool.and_true, Bool.true_and, Bool.and_false, Bool.false_and, reduceIte, beq_self_eq_true, ei]
    exact cut_app (by rw [i_lowT]; exact lows_pairs _ _)
theorem s__law_cl_lean (k : Nat) (rs : Rws) (m : Mem) (h : rs.length ≤ 1000) : callN P (k+1) 27 [.tup (rs.map pairT)] m = .ok (.tup ((leanR rs).map pairT), m) := eq_of <| by
  rw [u27]
  simp only [b27x2, b27x3, b27x1, b27t2, b27t1, b27, w_var, w_const, w_glob, w_op, w_nil, w_cons, w_tst, w_and, w_or, w_ife, w_chain, w_slc, w_lc, w_meth, w_meth2, w_ifs0, w_ifs1, w_over, w_range1, w_range2, w_enum, w_zip, w_expr, w_assign, w_par, w_aug, w_setIx, w_retE, w_retN, w_if, w_while, w_for, w_pass, w_brk, w_cont, w_bad, w_snil, w_scons, p_call, p_tup, p_mkT, p_mkLt, p_mkLf, p_lst, p_addI, p_addT, p_addS, p_addL, p_sub, p_mul, p_fdiv, p_mod, p_pow, p_neg, p_not, p_lt, p_le, p_gt, p_ge, p_isN, p_isnotN, p_isB, p_isnotB, p_eqI, p_neI, p_eqB, p_neB, p_len, p_lenL, p_lenC, p_ixC, p_ixT, p_ixL, p_ixR, p_max2, p_min2, p_abs, p_intI, p_intB, p_tupOf, p_listOf, p_sum, p_all, p_any, p_isI, p_isC, s_int, s_bl, s_tup, s_lst, s_str, s_non, s_ins, p_in, p_notin, t_bl, t_int, t_non, t_tup, t_lst, i_tup, i_lst, l_lst, ii_int, ii_bl, ii_tup, ii_lst, ii_str, ii_non, a_name, a_tup, a_nil, a_cons, sa_nil, sa_cons, i_at0, i_at1, i_at2, i_setR, i_ix30, i_ix31, i_ix32, i_lowI, i_lowB, i_lowN, i_lowT, p_eqT, p_neT, p_slT, p_slF, p_sl3, k_tup, k_lst, k_int, k_ins, p_app, i_isTt, i_isTl, i_isTr, l_len0, l_len1, l_len2, l_len3, l_len4, l_len5, l_len6, l_len7, l_len8, l_len9, l_len10, l_len11, l_len12, p_mulL, p_back, p_slLt, p_slLf, w_asgG, w_gName, w_gIx, w_gAttr, w_gTup, w_gNil, w_gCons, w_setAttr, p_neTP, p_eqTP, p_eqLI, p_neLI, i_recvI, Ok_ok, Ok_bad, OkS_ok, OkS_bad, OkS_then, onN_nx, onN_rt, onN_bk, onN_ct, onT_nx, onT_ct, onT_bk, onT_rt, onR_nx, onR_rt, Ok_ret, List.getElem?_cons_zero, List.getElem?_cons_succ, List.set_cons_zero, List.set_cons_succ, cut_same, Option.some.injEq, exists_eq_left', exists_eq_left, D.int.injEq, D.bl.injEq, D.tup.injEq, D.lst.injEq, D.ref.injEq, Cell.lst.injEq, Option.bind_some, Option.map_some, Bool.not_true, Bool.not_false, if_true, if_false, Bool.false_eq_true, reduceCtorEq, decide_true, decide_false, true_and, and_true, Prod.mk.injEq, and_self, String.reduceEq, Bool.or_false, Bool.false_or, Bool.or_true, Bool.true_or, Bool.and_true, Bool.true_and, Bool.and_false, Bool.false_and, reduceIte, beq_self_eq_true]
  refine for_ok (fun i ρ m' => ∃ y z, ρ = [some (.tup (rs.map pairT)), some (.ref m.length), y, z] ∧ m' = m ++ [.lst (((rs.take i).foldl leanS []).map pairT)]) ⟨none, none, rfl, rfl⟩ (fun _ _ _ _ => rfl) ?_ ?_
  · rintro i d ρ m' hd ⟨y, z, rfl, rfl⟩
    rw [List.getElem?_map, Option.map_eq_some_iff] at hd
    obtain ⟨p, hp, rfl⟩ := hd
    have hi : i < rs.length := (List.getElem?_eq_some_iff.mp hp).1
    have e : rs.take (i + 1) = rs.take i ++ [p] := by rw [List.take_add_one, hp]; rfl
    rw [e, List.foldl_append]
    simp only [List.foldl_cons, List.foldl_nil]
    have hf : ((rs.take i).foldl leanS []).length < 1000 := by
      have := lean_len (rs.take i) []
      simp at this
      omega
    generalize (rs.take i).foldl leanS [] = f at hf ⊢
    refine ⟨_, rfl, ?_⟩
    have er : recvK (.ref m.length) (m ++ [.lst (f.map pairT)]) = 1 := recv_ref at_app
    simp only [pairT, w_var, w_const, w_glob, w_op, w_nil, w_cons, w_tst, w_and, w_or, w_ife, w_chain, w_slc, w_lc, w_meth, w_meth2, w_ifs0, w_ifs1, w_over, w_range1, w_range2, w_enum, w_zip, w_expr, w_assign, w_par, w_aug, w_setIx, w_retE, w_retN, w_if, w_while, w_for, w_pass, w_brk, w_cont, w_bad, w_snil, w_scons, p_call, p_tup, p_mkT, p_mkLt, p_mkLf, p_lst, p_addI, p_addT, p_addS, p_addL, p_sub, p_mul, p_fdiv, p_mod, p_pow, p_neg, p_not, p_lt, p_le, p_gt, p_ge, p_isN, p_isnotN, p_isB, p_isnotB, p_eqI, p_neI, p_eqB, p_neB, p_len, p_lenL, p_lenC, p_ixC, p_ixT, p_ixL, p_ixR, p_max2, p_min2, p_abs, p_intI, p_intB, p_tupOf, p_listOf, p_sum, p_all, p_any, p_isI, p_isC, s_int, s_bl, s_tup, s_lst, s_str, s_non, s_ins, p_in, p_notin, t_bl, t_int, t_non, t_tup, t_lst, i_tup, i_lst, l_lst, ii_int, ii_bl, ii_tup, ii_lst, ii_str, ii_non, a_name, a_tup, a_nil, a_cons, sa_nil, sa_cons, i_at0, i_at1, i_at2, i_setR, i_ix30, i_ix31, i_ix32, i_lowI, i_lowB, i_lowN, i_lowT, p_eqT, p_neT, p_slT, p_slF, p_sl3, k_tup, k_lst, k_int, k_ins, p_app, i_isTt, i_isTl, i_isTr, l_len0, l_len1, l_len2, l_len3, l_len4, l_len5, l_len6, l_len7, l_len8, l_len9, l_len10, l_len11, l_len12, p_mulL, p_back, p_slLt, p_slLf, w_asgG, w_gName, w_gIx, w_gAttr, w_gTup, w_gNil, w_gCons, w_setAttr, p_neTP, p_eqTP, p_eqLI, p_neLI, i_recvI, Ok_ok, Ok_bad, OkS_ok, OkS_bad, OkS_then, onN_nx, onN_rt, onN_bk, onN_ct, onT_nx, onT_ct, onT_bk, onT_rt, onR_nx, onR_rt, Ok_ret, List.getElem?_cons_zero, List.getElem?_cons_succ, List.set_cons_zero, List.set_cons_succ, cut_same, Option.some.injEq, exists_eq_left', exists_eq_left, D.int.injEq, D.bl.injEq, D.tup.injEq, D.lst.injEq, D.ref.injEq, Cell.lst.injEq, Option.bind_some, Option.map_some, Bool.not_true, Bool.not_false, if_true, if_false, Bool.false_eq_true, reduceCtorEq, decide_true, decide_false, true_and, and_true, Prod.mk.injEq, and_self, String.reduceEq, Bool.or_false, Bool.false_or, Bool.or_true, Bool.true_or, Bool.and_true, Bool.true_and, Bool.and_false, Bool.false_and, reduceIte, beq_self_eq_true, p_neR at_app (pls_pairs 0 f) pl_nil]
    rcases snoc_cases f with rfl | ⟨a, q, rfl⟩
    · simp only [List.map_nil, w_var, w_const, w_glob, w_op, w_nil, w_cons, w_tst, w_and, w_or, w_ife, w_chain, w_slc, w_lc, w_meth, w_meth2, w_ifs0, w_ifs1, w_over, w_range1, w_range2, w_enum, w_zip, w_expr, w_assign, w_par, w_aug, w_setIx, w_retE, w_retN, w_if, w_while, w_for, w_pass, w_brk, w_cont, w_bad, w_snil, w_scons, p_call, p_tup, p_mkT, p_mkLt, p_mkLf, p_lst, p_addI, p_addT, p_addS, p_addL, p_sub, p_mul, p_fdiv, p_mod, p_pow, p_neg, p_not, p_lt, p_le, p_gt, p_ge, p_isN, p_isnotN, p_isB, p_isnotB, p_eqI, p_neI, p_eqB, p_neB, p_len, p_lenL, p_lenC, p_ixC, p_ixT, p_ixL, p_ixR, p_max2, p_min2, p_abs, p_intI, p_intB, p_tupOf, p_listOf, p_sum, p_all, p_any, p_isI, p_isC, s_int, s_bl, s_tup, s_lst, s_str, s_non, s_ins, p_in, p_notin, t_bl, t_int, t_non, t_tup, t_lst, i_tup, i_lst, l_lst, ii_int, ii_bl, ii_tup, ii_lst, ii_str, ii_non, a_name, a_tup, a_nil, a_cons, sa_nil, sa_cons, i_at0, i_at1, i_at2, i_setR, i_ix30, i_ix31, i_ix32, i_lowI, i_lowB, i_lowN, i_lowT, p_eqT, p_neT, p_slT, p_slF, p_sl3, k_tup, k_lst, k_int, k_ins, p_app, i_isTt, i_isTl, i_isTr, l_len0, l_len1, l_len2, l_len3, l_len4, l_len5, l_len6, l_len7, l_len8, l_len9, l_len10, l_len11, l_len12, p_mulL, p_back, p_slLt, p_slLf, w_asgG, w_gName, w_gIx, w_gAttr, w_gTup, w_gNil, w_gCons, w_setAttr, p_neTP, p_eqTP, p_eqLI, p_neLI, i_recvI, Ok_ok, Ok_bad, OkS_ok, OkS_bad, OkS_then, onN_nx, onN_rt, onN_bk, onN_ct, onT_nx, onT_ct, onT_bk, onT_rt, onR_nx, onR_rt, Ok_ret, List.getElem?_cons_zero, List.getElem?_cons_succ, List.set_cons_zero, List.set_cons_succ, cut_same, Option.some.injEq, exists_eq_left', exists_eq_left, D.int.injEq, D.bl.injEq, D.tup.injEq, D.lst.injEq, D.ref.injEq, Cell.lst.injEq, Option.bind_some, Option.map_some, Bool.not_true, Bool.not_false, if_true, if_false, Bool.false_eq_true, reduceCtorEq, decide_true, decide_false, true_and, and_true, Prod.mk.injEq, and_self, String.reduceEq, Bool.or_false, Bool.false_or, Bool.or_true, Bool.true_or, Bool.and_true, Bool.true_and, Bool.and_false, Bool.false_and, reduceIte, beq_self_eq_true, leanS_nil] at er ⊢
      exact ⟨er, [], at_app, lim1000 (by decide), _, _, rfl, by rw [set_app]; rfl⟩
    · simp only [List.map_append, List.map_cons, List.map_nil, pairT, at_app, at_last, w_var, w_const, w_glob, w_op, w_nil, w_cons, w_tst, w_and, w_or, w_ife, w_chain, w_slc, w_lc, w_meth, w_meth2, w_ifs0, w_ifs1, w_over, w_range1, w_range2, w_enum, w_zip, w_expr, w_assign, w_par, w_aug, w_setIx, w_retE, w_retN, w_if, w_while, w_for, w_pass, w_brk, w_cont, w_bad, w_snil, w_scons, p_call, p_tup, p_mkT, p_mkLt, p_mkLf, p_lst, p_addI, p_addT, p_addS, p_addL, p_sub, p_mul, p_fdiv, p_mod, p_pow, p_neg, p_not, p_lt, p_le, p_gt, p_ge, p_isN, p_isnotN, p_isB, p_isnotB, p_eqI, p_neI, p_eqB, p_neB, p_len, p_lenL, p_lenC, p_ixC, p_ixT, p_ixL, p_ixR, p_max2, p_min2, p_abs, p_intI, p_intB, p_tupOf, p_listOf, p_sum, p_all, p_any, p_isI, p_isC, s_int, s_bl, s_tup, s_lst, s_str, s_non, s_ins, p_in, p_notin, t_bl, t_int, t_non, t_tup, t_lst, i_tup, i_lst, l_lst, ii_int, ii_bl, ii_tup, ii_lst, ii_str, ii_non, a_name, a_tup, a_nil, a_cons, sa_nil, sa_cons, i_at0, i_at1, i_at2, i_setR, i_ix30, i_ix31, i_ix32, i_lowI, i_lowB, i_lowN, i_lowT, p_eqT, p_neT, p_slT, p_slF, p_sl3, k_tup, k_lst, k_int, k_ins, p_app, i_isTt, i_isTl, i_isTr, l_len0, l_len1, l_len2, l_len3, l_len4, l_len5, l_len6, l_len7, l_len8, l_len9, l_len10, l_len11, l_len12, p_mulL, p_back, p_slLt, p_slLf, w_asgG, w_gName, w_gIx, w_gAttr, w_gTup, w_gNil, w_gCons, w_setAttr, p_neTP, p_eqTP, p_eqLI, p_neLI, i_recvI, Ok_ok, Ok_bad, OkS_ok, OkS_bad, OkS_then, onN_nx, onN_rt, onN_bk, onN_ct, onT_nx, onT_ct, onT_bk, onT_rt, onR_nx, onR_rt, Ok_ret, List.getElem?_cons_zero, List.getElem?_cons_succ, List.set_cons_zero, List.set_cons_succ, cut_same, Option.some.injEq, exists_eq_left', exists_eq_left, D.int.injEq, D.bl.injEq, D.tup.injEq, D.lst.injEq, D.ref.injEq, Cell.lst.injEq, Option.bind_some, Option.map_some, Bool.not_true, Bool.not_false, if_true, if_false, Bool.false_eq_true, reduceCtorEq, decide_true, decide_false, true_and, and_true, Prod.mk.injEq, and_self, String.reduceEq, Bool.or_false, Bool.false_or, Bool.or_true, Bool.true_or, Bool.and_true, Bool.true_and, Bool.and_false, Bool.false_and, reduceIte, beq_self_eq_true, List.append_eq_nil_iff, List.cons_ne_nil, and_false] at er ⊢
      have hl : (a.map pairT ++ [D.tup [D.int q.1, D.int q.2]]).length < LIM := by
        refine lim1000 ?_
        simp at hf ⊢
        omega
      by_cases e : q.1 = p.1
      · simp only [e, w_var, w_const, w_glob, w_op, w_nil, w_cons, w_tst, w_and, w_or, w_ife, w_chain, w_slc, w_lc, w_meth, w_meth2, w_ifs0, w_ifs1, w_over, w_range1, w_range2, w_enum, w_zip, w_expr, w_assign, w_par, w_aug, w_setIx, w_retE, w_retN, w_if, w_while, w_for, w_pass, w_brk, w_cont, w_bad, w_snil, w_scons, p_call, p_tup, p_mkT, p_mkLt, p_mkLf, p_lst, p_addI, p_addT, p_addS, p_addL, p_sub, p_mul, p_fdiv, p_mod, p_pow, p_neg, p_not, p_lt, p_le, p_gt, p_ge, p_isN, p_isnotN, p_isB, p_isnotB, p_eqI, p_neI, p_eqB, p_neB, p_len, p_lenL, p_lenC, p_ixC, p_ixT, p_ixL, p_ixR, p_max2, p_min2, p_abs, p_intI, p_intB, p_tupOf, p_listOf, p_sum, p_all, p_any, p_isI, p_isC, s_int, s_bl, s_tup, s_lst, s_str, s_non, s_ins, p_in, p_notin, t_bl, t_int, t_non, t_tup, t_lst, i_tup, i_lst, l_lst, ii_int, ii_bl, ii_tup, ii_lst, ii_str, ii_non, a_name, a_tup, a_nil, a_cons, sa_nil, sa_cons, i_at0, i_at1, i_at2, i_setR, i_ix30, i_ix31, i_ix32, i_lowI, i_lowB, i_lowN, i_lowT, p_eqT, p_neT, p_slT, p_slF, p_sl3, k_tup, k_lst, k_int, k_ins, p_app, i_isTt, i_isTl, i_isTr, l_len0, l_len1, l_len2, l_len3, l_len4, l_len5, l_len6, l_len7, l_len8, l_len9, l_len10, l_len11, l_len12, p_mulL, p_back, p_slLt, p_slLf, w_asgG, w_gName, w_gIx, w_gAttr, w_gTup, w_gNil, w_gCons, w_setAttr, p_neTP, p_eqTP, p_eqLI, p_neLI, i_recvI, Ok_ok, Ok_bad, OkS_ok, OkS_bad, OkS_then, onN_nx, onN_rt, onN_bk, onN_ct, onT_nx, onT_ct, onT_bk, onT_rt, onR_nx, onR_rt, Ok_ret, List.getElem?_cons_zero, List.getElem?_cons_succ, List.set_cons_zero, List.set_cons_succ, cut_same, Option.some.injEq, exists_eq_left', exists_eq_left, D.int.injEq, D.bl.injEq, D.tup.injEq, D.lst.injEq, D.ref.injEq, Cell.lst.injEq, Option.bind_some, Option.map_some, Bool.not_true, Bool.not_false, if_true, if_false, Bool.false_eq_true, reduceCtorEq, decide_true, decide_false, true_and, and_true, Prod.mk.injEq, and_self, String.reduceEq, Bool.or_false, Bool.false_or, Bool.or_true, Bool.true_or, Bool.and_true, Bool.true_and, Bool.and_false, Bool.false_and, reduceIte, beq_self_eq_true, leanS_snoc, ix_last, set_app, set_last, List.map_append, List.map_cons, List.map_nil]
        exact ⟨_, _, rfl, rfl⟩
      · simp only [e, w_var, w_const, w_glob, w_op, w_nil, w_cons, w_tst, w_and, w_or, w_ife, w_chain, w_slc, w_lc, w_meth, w_meth2, w_ifs0, w_ifs1, w_over, w_range1, w_range2, w_enum, w_zip, w_expr, w_assign, w_par, w_aug, w_setIx, w_retE, w_retN, w_if, w_while, w_for, w_pass, w_brk, w_cont, w_bad, w_snil, w_scons, p_call, p_tup, p_mkT, p_mkLt, p_mkLf, p_lst, p_addI, p_addT, p_addS, p_addL, p_sub, p_mul, p_fdiv, p_mod, p_pow, p_neg, p_not, p_lt, p_le, p_gt, p_ge, p_isN, p_isnotN, p_isB, p_isnotB, p_eqI, p_neI, p_eqB, p_neB, p_len, p_lenL, p_lenC, p_ixC, p_ixT, p_ixL, p_ixR, p_max2, p_min2, p_abs, p_intI, p_intB, p_tupOf, p_listOf, p_sum, p_all, p_any, p_isI, p_isC, s_int, s_bl, s_tup, s_lst, s_str, s_non, s_ins, p_in, p_notin, t_bl, t_int, t_non, t_tup, t_lst, i_tup, i_lst, l_lst, ii_int, ii_bl, ii_tup, ii_lst, ii_str, ii_non, a_name, a_tup, a_nil, a_cons, sa_nil, sa_cons, i_at0, i_at1, i_at2, i_setR, i_ix30, i_ix31, i_ix32, i_lowI, i_lowB, i_lowN, i_lowT, p_eqT, p_neT, p_slT, p_slF, p_sl3, k_tup, k_lst, k_int, k_ins, p_app, i_isTt, i_isTl, i_isTr, l_len0, l_len1, l_len2, l_len3, l_len4, l_len5, l_len6, l_len7, l_len8, l_len9, l_len10, l_len11, l_len12, p_mulL, p_back, p_slLt, p_slLf, w_asgG, w_gName, w_gIx, w_gAttr, w_gTup, w_gNil, w_gCons, w_setAttr, p_neTP, p_eqTP, p_eqLI, p_neLI, i_recvI, Ok_ok, Ok_bad, OkS_ok, OkS_bad, OkS_then, onN_nx, onN_rt, onN_bk, onN_ct, onT_nx, onT_ct, onT_bk, onT_rt, onR_nx, onR_rt, Ok_ret, List.getElem?_cons_zero, List.getElem?_cons_succ, List.set_cons_zero, List.set_cons_succ, cut_same, Option.some.injEq, exists_eq_left', exists_eq_left, D.int.injEq, D.bl.injEq, D.tup.injEq, D.lst.injEq, D.ref.injEq, Cell.lst.injEq, Option.bind_some, Option.map_some, Bool.not_true, Bool.not_false, if_true, if_false, Bool.false_eq_true, reduceCtorEq, decide_true, decide_false, true_and, and_true, Prod.mk.injEq, and_self, String.reduceEq, Bool.or_false, Bool.false_or, Bool.or_true, Bool.true_or, Bool.and_true, Bool.true_and, Bool.and_false, Bool.false_and, reduceIte, beq_self_eq_true, leanS_snoc, set_app, List.map_append, List.map_cons, List.map_nil]
        exact ⟨er, hl, _, _, rfl, rfl⟩
  · rintro ρ m' ⟨y, z, rfl, rfl⟩
    rw [List.length_map, List.take_length]
    have ei : itemsOf (m ++ [.lst (((rs.foldl leanS []).map pairT))]) (.ref m.length) = some ((rs.foldl leanS []).map pairT) := i_ref at_app
    simp only [w_var, w_const, w_glob, w_op, w_nil, w_cons, w_tst, w_and, w_or, w_ife, w_chain, w_slc, w_lc, w_meth, w_meth2, w_ifs0, w_ifs1, w_over, w_range1, w_range2, w_enum, w_zip, w_expr, w_assign, w_par, w_aug, w_setIx, w_retE, w_retN, w_if, w_while, w_for, w_pass, w_brk, w_cont, w_bad, w_snil, w_scons, p_call, p_tup, p_mkT, p_mkLt, p_mkLf, p_lst, p_addI, p_addT, p_addS, p_addL, p_sub, p_mul, p_fdiv, p_mod, p_pow, p_neg, p_not, p_lt, p_le, p_gt, p_ge, p_isN, p_isnotN, p_isB, p_isnotB, p_eqI, p_neI, p_eqB, p_neB, p_len, p_lenL, p_lenC, p_ixC, p_ixT, p_ixL, p_ixR, p_max2, p_min2, p_abs, p_intI, p_intB, p_tupOf, p_listOf, p_sum, p_all, p_any, p_isI, p_isC, s_int, s_bl, s_tup, s_lst, s_str, s_non, s_ins, p_in, p_notin, t_bl, t_int, t_non, t_tup, t_lst, i_tup, i_lst, l_lst, ii_int, ii_bl, ii_tup, ii_lst, ii_str, ii_non, a_name, a_tup, a_nil, a_cons, sa_nil, sa_cons, i_at0, i_at1, i_at2, i_setR, i_ix30, i_ix31, i_ix32, i_lowI, i_lowB, i_lowN, i_lowT, p_eqT, p_neT, p_slT, p_slF, p_sl3, k_tup, k_lst, k_int, k_ins, p_app, i_isTt, i_isTl, i_isTr, l_len0, l_len1, l_len2, l_len3, l_len4, l_len5, l_len6, l_len7, l_len8, l_len9, l_len10, l_len11, l_len12, p_mulL, p_back, p_slLt, p_slLf, w_asgG, w_gName, w_gIx, w_gAttr, w_gTup, w_gNil, w_gCons, w_setAttr, p_neTP, p_eqTP, p_eqLI, p_neLI, i_recvI, Ok_ok, Ok_bad, OkS_ok, OkS_bad, OkS_then, onN_nx, onN_rt, onN_bk, onN_ct, onT_nx, onT_ct, onT_bk, onT_rt, onR_nx, onR_rt, Ok_ret, List.getElem?_cons_zero, List.getElem?_cons_succ, List.set_cons_zero, List.set_cons_succ, cut_same, Option.some.injEq, exists_eq_left', exists_eq_left, D.int.injEq, D.bl.injEq, D.tup.injEq, D.lst.injEq, D.ref.injEq, Cell.lst.injEq, Option.bind_some, Option.map_some, Bool.not_true, Bool.not_false, if_true, if_false, Bool.false_eq_true, reduceCtorEq, decide_true, decide_false, true_and, and_true, Prod.mk.injEq, and_self, String.reduceEq, Bool.or_false, Bool.false_or, Bool.or_true, Bool.true_or, Bool.and_true, Bool.true_and, Bool.and_false, Bool.false_and, reduceIte, beq_self_eq_true, ei]
    exact cut_app (by rw [i_lowT]; exact lows_pairs _ _)
theorem s_stock_init (k : Nat) {rs : Rws} (m : Mem) (h : RowsOk rs) : callN P (k+5) 37 [.ref m.length, .tup (rs.map pairT)] (m ++ [.obj 1 []]) = .ok (.non, m ++ [.obj 1 [some (.tup ((leanR rs).map pairT))]]) := eq_of <| by
  rw [u37]
  have e : setAttrOf P (.ref m.length) "own_rows" (.tup ((leanR rs).map pairT)) (m ++ [.obj 1 []]) = some (m ++ [.obj 1 [some (.tup ((leanR rs).map pairT))]]) := by
    simp only [setAttrOf, mem_obj, k1]
    show some ((m ++ [Cell.obj 1 []]).set m.length _) = _
    rw [set_app']
    rfl
  simp only [b37x1, b37t1, b37, w_var, w_const, w_glob, w_op, w_nil, w_cons, w_tst, w_and, w_or, w_ife, w_chain, w_slc, w_lc, w_meth, w_meth2, w_ifs0, w_ifs1, w_over, w_range1, w_range2, w_enum, w_zip, w_expr, w_assign, w_par, w_aug, w_setIx, w_retE, w_retN, w_if, w_while, w_for, w_pass, w_brk, w_cont, w_bad, w_snil, w_scons, p_call, p_tup, p_mkT, p_mkLt, p_mkLf, p_lst, p_addI, p_addT, p_addS, p_addL, p_sub, p_mul, p_fdiv, p_mod, p_pow, p_neg, p_not, p_lt, p_le, p_gt, p_ge, p_isN, p_isnotN, p_isB, p_isnotB, p_eqI, p_neI, p_eqB, p_neB, p_len, p_lenL, p_lenC, p_ixC, p_ixT, p_ixL, p_ixR, p_max2, p_min2, p_abs, p_intI, p_intB, p_tupOf, p_listOf, p_sum, p_all, p_any, p_isI, p_isC, s_int, s_bl, s_tup, s_lst, s_str, s_non, s_ins, p_in, p_notin, t_bl, t_int, t_non, t_tup, t_lst, i_tup, i_lst, l_lst, ii_int, ii_bl, ii_tup, ii_lst, ii_str, ii_non, a_name, a_tup, a_nil, a_cons, sa_nil, sa_cons, i_at0, i_at1, i_at2, i_setR, i_ix30, i_ix31, i_ix32, i_lowI, i_lowB, i_lowN, i_lowT, p_eqT, p_neT, p_slT, p_slF, p_sl3, k_tup, k_lst, k_int, k_ins, p_app, i_isTt, i_isTl, i_isTr, l_len0, l_len1, l_len2, l_len3, l_len4, l_len5, l_len6, l_len7, l_len8, l_len9, l_len10, l_len11, l_len12, p_mulL, p_back, p_slLt, p_slLf, w_asgG, w_gName, w_gIx, w_gAttr, w_gTup, w_gNil, w_gCons, w_setAttr, p_neTP, p_eqTP, p_eqLI, p_neLI, i_recvI, Ok_ok, Ok_bad, OkS_ok, OkS_bad, OkS_then, onN_nx, onN_rt, onN_bk, onN_ct, onT_nx, onT_ct, onT_bk, onT_rt, onR_nx, onR_rt, Ok_ret, List.getElem?_cons_zero, List.getElem?_cons_succ, List.set_cons_zero, List.set_cons_succ, cut_same, Option.some.injEq, exists_eq_left', exists_eq_left, D.int.injEq, D.bl.injEq, D.tup.injEq, D.lst.injEq, D.ref.injEq, Cell.lst.injEq, Option.bind_some, Option.map_some, Bool.not_true, Bool.not_false, if_true, if_false, Bool.false_eq_true, reduceCtorEq, decide_true, decide_false, true_and, and_true, Prod.mk.injEq, and_self, String.reduceEq, Bool.or_false, Bool.false_or, Bool.or_true, Bool.true_or, Bool.and_true, Bool.true_and, Bool.and_false, Bool.false_and, reduceIte, beq_self_eq_true, s_are_rows k _ h, s_lean _ rs _ (by have := h.len; omega), e]
  exact cut_upd (low_obj1 (by rw [i_lowT]; exact lows_pairs _ _))
/-- a stock's value -/
abbrev St (rs : Rws) : D := .ins 1 [.tup (rs.map pairT)]
abbrev Sc (ns : List Int) : D := .ins 0 [.tup (ns.map .int)]
theorem new_stock (k : Nat) {rs : Rws} (m : Mem) (h : RowsOk rs) : prim P (callN P (k+5)) (.new 1) [.tup (rs.map pairT)] m = .ok (St (leanR rs), m) := by
  rw [new_frz k1 rfl (s_stock_init k m h) at_app rfl rfl (by simp only [D.lows, i_lowT, lows_pairs, Bool.and_self]) (oldOk_app _ m _), List.take_left]
theorem at_own_rows {call : Nat → List D → Mem → R (D × Mem)} {d : D} {m : Mem} : prim P call (.attr "own_rows") [.ins 1 [d]] m = .ok (d, m) := by
  rfl
theorem at_rows (k : Nat) {d : D} {m : Mem} : prim P (callN P (k+1)) (.attr "rows") [.ins 1 [d]] m = .ok (d, m) := by
  have e : callN P (k+1) 38 [.ins 1 [d]] m = .ok (d, m) := eq_of <| by
    rw [u38]
    simp only [b38, w_var, w_const, w_glob, w_op, w_nil, w_cons, w_tst, w_and, w_or, w_ife, w_chain, w_slc, w_lc, w_meth, w_meth2, w_ifs0, w_ifs1, w_over, w_range1, w_range2, w_enum, w_zip, w_expr, w_assign, w_par, w_aug, w_setIx, w_retE, w_retN, w_if, w_while, w_for, w_pass, w_brk, w_cont, w_bad, w_snil, w_scons, p_call, p_tup, p_mkT, p_mkLt, p_mkLf, p_lst, p_addI, p_addT, p_addS, p_addL, p_sub, p_mul, p_fdiv, p_mod, p_pow, p_neg, p_not, p_lt, p_le, p_gt, p_ge, p_isN, p_isnotN, p_isB, p_isnotB, p_eqI, p_neI, p_eqB, p_neB, p_len, p_lenL, p_lenC, p_ixC, p_ixT, p_ixL, p_ixR, p_max2, p_min2, p_abs, p_intI, p_intB, p_tupOf, p_listOf, p_sum, p_all, p_any, p_isI, p_isC, s_int, s_bl, s_tup, s_lst, s_str, s_non, s_ins, p_in, p_notin, t_bl, t_int, t_non, t_tup, t_lst, i_tup, i_lst, l_lst, ii_int, ii_bl, ii_tup, ii_lst, ii_str, ii_non, a_name, a_tup, a_nil, a_cons, sa_nil, sa_cons, i_at0, i_at1, i_at2, i_setR, i_ix30, i_ix31, i_ix32, i_lowI, i_lowB, i_lowN, i_lowT, p_eqT, p_neT, p_slT, p_slF, p_sl3, k_tup, k_lst, k_int, k_ins, p_app, i_isTt, i_isTl, i_isTr, l_len0, l_len1, l_len2, l_len3, l_len4, l_len5, l_len6, l_len7, l_len8, l_len9, l_len10, l_len11, l_len12, p_mulL, p_back, p_slLt, p_slLf, w_asgG, w_gName, w_gIx, w_gAttr, w_gTup, w_gNil, w_gCons, w_setAttr, p_neTP, p_eqTP, p_eqLI, p_neLI, i_recvI, Ok_ok, Ok_bad, OkS_ok, OkS_bad, OkS_then, onN_nx, onN_rt, onN_bk, onN_ct, onT_nx, onT_ct, onT_bk, onT_rt, onR_nx, onR_rt, Ok_ret, List.getElem?_cons_zero, List.getElem?_cons_succ, List.set_cons_zero, List.set_cons_succ, cut_same, Option.some.injEq, exists_eq_left', exists_eq_left, D.int.injEq, D.bl.injEq, D.tup.injEq, D.lst.injEq, D.ref.injEq, Cell.lst.injEq, Option.bind_some, Option.map_some, Bool.not_true, Bool.not_false, if_true, if_false, Bool.false_eq_true, reduceCtorEq, decide_true, decide_false, true_and, and_true, Prod.mk.injEq, and_self, String.reduceEq, Bool.or_false, Bool.false_or, Bool.or_true, Bool.true_or, Bool.and_true, Bool.true_and, Bool.and_false, Bool.false_and, reduceIte, beq_self_eq_true, at_own_rows]
  have e2 : prim P (callN P (k+1)) (.attr "rows") [.ins 1 [d]] m = nox (callN P (k+1) 38 [.ins 1 [d]] m) := rfl
  rw [e2, e]
  rfl
def holdsR (rs : Rws) : Int := (rs.map (·.2)).sum
theorem at_holds (k : Nat) {rs : Rws} {m : Mem} (h : rs.length ≤ 1000) : prim P (callN P (k+2)) (.attr "holds") [St rs] m = .ok (.int (holdsR rs), m) := by
  have e : callN P (k+2) 39 [St rs] m = .ok (.int (holdsR rs), m) := eq_of <| by
    rw [u39]
    simp only [b39, w_var, w_const, w_glob, w_op, w_nil, w_cons, w_tst, w_and, w_or, w_ife, w_chain, w_slc, w_lc, w_meth, w_meth2, w_ifs0, w_ifs1, w_over, w_range1, w_range2, w_enum, w_zip, w_expr, w_assign, w_par, w_aug, w_setIx, w_retE, w_retN, w_if, w_while, w_for, w_pass, w_brk, w_cont, w_bad, w_snil, w_scons, p_call, p_tup, p_mkT, p_mkLt, p_mkLf, p_lst, p_addI, p_addT, p_addS, p_addL, p_sub, p_mul, p_fdiv, p_mod, p_pow, p_neg, p_not, p_lt, p_le, p_gt, p_ge, p_isN, p_isnotN, p_isB, p_isnotB, p_eqI, p_neI, p_eqB, p_neB, p_len, p_lenL, p_lenC, p_ixC, p_ixT, p_ixL, p_ixR, p_max2, p_min2, p_abs, p_intI, p_intB, p_tupOf, p_listOf, p_sum, p_all, p_any, p_isI, p_isC, s_int, s_bl, s_tup, s_lst, s_str, s_non, s_ins, p_in, p_notin, t_bl, t_int, t_non, t_tup, t_lst, i_tup, i_lst, l_lst, ii_int, ii_bl, ii_tup, ii_lst, ii_str, ii_non, a_name, a_tup, a_nil, a_cons, sa_nil, sa_cons, i_at0, i_at1, i_at2, i_setR, i_ix30, i_ix31, i_ix32, i_lowI, i_lowB, i_lowN, i_lowT, p_eqT, p_neT, p_slT, p_slF, p_sl3, k_tup, k_lst, k_int, k_ins, p_app, i_isTt, i_isTl, i_isTr, l_len0, l_len1, l_len2, l_len3, l_len4, l_len5, l_len6, l_len7, l_len8, l_len9, l_len10, l_len11, l_len12, p_mulL, p_back, p_slLt, p_slLf, w_asgG, w_gName, w_gIx, w_gAttr, w_gTup, w_gNil, w_gCons, w_setAttr, p_neTP, p_eqTP, p_eqLI, p_neLI, i_recvI, Ok_ok, Ok_bad, OkS_ok, OkS_bad, OkS_then, onN_nx, onN_rt, onN_bk, onN_ct, onT_nx, onT_ct, onT_bk, onT_rt, onR_nx, onR_rt, Ok_ret, List.getElem?_cons_zero, List.getElem?_cons_succ, List.set_cons_zero, List.set_cons_succ, cut_same, Option.some.injEq, exists_eq_left', exists_eq_left, D.int.injEq, D.bl.injEq, D.tup.injEq, D.lst.injEq, D.ref.injEq, Cell.lst.injEq, Option.bind_some, Option.map_some, Bool.not_true, Bool.not_false, if_true, if_false, Bool.false_eq_true, reduceCtorEq, decide_true, decide_false, true_and, and_true, Prod.mk.injEq, and_self, String.reduceEq, Bool.or_false, Bool.false_or, Bool.or_true, Bool.true_or, Bool.and_true, Bool.true_and, Bool.and_false, Bool.false_and, reduceIte, beq_self_eq_true, at_own_rows, s_holds_in k rs m h]
    rfl
  have e2 : prim P (callN P (k+2)) (.attr "holds") [St rs] m = nox (callN P (k+2) 39 [St rs] m) := rfl
  rw [e2, e]
  rfl
theorem at_room (k : Nat) {rs : Rws} {m : Mem} (h : rs.length ≤ 1000) (hs : ∀ p ∈ rs, Sm p.1 = true ∧ Sm p.2 = true) : prim P (callN P (k+2)) (.attr "room") [St rs] m = .ok (.int (rsum id rs), m) := by
  have e : callN P (k+2) 40 [St rs] m = .ok (.int (rsum id rs), m) := eq_of <| by
    rw [u40]
    simp only [b40, w_var, w_const, w_glob, w_op, w_nil, w_cons, w_tst, w_and, w_or, w_ife, w_chain, w_slc, w_lc, w_meth, w_meth2, w_ifs0, w_ifs1, w_over, w_range1, w_range2, w_enum, w_zip, w_expr, w_assign, w_par, w_aug, w_setIx, w_retE, w_retN, w_if, w_while, w_for, w_pass, w_brk, w_cont, w_bad, w_snil, w_scons, p_call, p_tup, p_mkT, p_mkLt, p_mkLf, p_lst, p_addI, p_addT, p_addS, p_addL, p_sub, p_mul, p_fdiv, p_mod, p_pow, p_neg, p_not, p_lt, p_le, p_gt, p_ge, p_isN, p_isnotN, p_isB, p_isnotB, p_eqI, p_neI, p_eqB, p_neB, p_len, p_lenL, p_lenC, p_ixC, p_ixT, p_ixL, p_ixR, p_max2, p_min2, p_abs, p_intI, p_intB, p_tupOf, p_listOf, p_sum, p_all, p_any, p_isI, p_isC, s_int, s_bl, s_tup, s_lst, s_str, s_non, s_ins, p_in, p_notin, t_bl, t_int, t_non, t_tup, t_lst, i_tup, i_lst, l_lst, ii_int, ii_bl, ii_tup, ii_lst, ii_str, ii_non, a_name, a_tup, a_nil, a_cons, sa_nil, sa_cons, i_at0, i_at1, i_at2, i_setR, i_ix30, i_ix31, i_ix32, i_lowI, i_lowB, i_lowN, i_lowT, p_eqT, p_neT, p_slT, p_slF, p_sl3, k_tup, k_lst, k_int, k_ins, p_app, i_isTt, i_isTl, i_isTr, l_len0, l_len1, l_len2, l_len3, l_len4, l_len5, l_len6, l_len7, l_len8, l_len9, l_len10, l_len11, l_len12, p_mulL, p_back, p_slLt, p_slLf, w_asgG, w_gName, w_gIx, w_gAttr, w_gTup, w_gNil, w_gCons, w_setAttr, p_neTP, p_eqTP, p_eqLI, p_neLI, i_recvI, Ok_ok, Ok_bad, OkS_ok, OkS_bad, OkS_then, onN_nx, onN_rt, onN_bk, onN_ct, onT_nx, onT_ct, onT_bk, onT_rt, onR_nx, onR_rt, Ok_ret, List.getElem?_cons_zero, List.getElem?_cons_succ, List.set_cons_zero, List.set_cons_succ, cut_same, Option.some.injEq, exists_eq_left', exists_eq_left, D.int.injEq, D.bl.injEq, D.tup.injEq, D.lst.injEq, D.ref.injEq, Cell.lst.injEq, Option.bind_some, Option.map_some, Bool.not_true, Bool.not_false, if_true, if_false, Bool.false_eq_true, reduceCtorEq, decide_true, decide_false, true_and, and_true, Prod.mk.injEq, and_self, String.reduceEq, Bool.or_false, Bool.false_or, Bool.or_true, Bool.true_or, Bool.and_true, Bool.true_and, Bool.and_false, Bool.false_and, reduceIte, beq_self_eq_true, at_own_rows, s_room_in k rs m h hs]
  have e2 : prim P (callN P (k+2)) (.attr "room") [St rs] m = nox (callN P (k+2) 40 [St rs] m) := rfl
  rw [e2, e]
  rfl
theorem s_stock_eq (k : Nat) {a b : Rws} {m : Mem} : callN P (k+1) 42 [St a, St b] m = .ok (.bl (decide (a = b)), m) := eq_of <| by
  rw [u42]
  simp only [b42, w_var, w_const, w_glob, w_op, w_nil, w_cons, w_tst, w_and, w_or, w_ife, w_chain, w_slc, w_lc, w_meth, w_meth2, w_ifs0, w_ifs1, w_over, w_range1, w_range2, w_enum, w_zip, w_expr, w_assign, w_par, w_aug, w_setIx, w_retE, w_retN, w_if, w_while, w_for, w_pass, w_brk, w_cont, w_bad, w_snil, w_scons, p_call, p_tup, p_mkT, p_mkLt, p_mkLf, p_lst, p_addI, p_addT, p_addS, p_addL, p_sub, p_mul, p_fdiv, p_mod, p_pow, p_neg, p_not, p_lt, p_le, p_gt, p_ge, p_isN, p_isnotN, p_isB, p_isnotB, p_eqI, p_neI, p_eqB, p_neB, p_len, p_lenL, p_lenC, p_ixC, p_ixT, p_ixL, p_ixR, p_max2, p_min2, p_abs, p_intI, p_intB, p_tupOf, p_listOf, p_sum, p_all, p_any, p_isI, p_isC, s_int, s_bl, s_tup, s_lst, s_str, s_non, s_ins, p_in, p_notin, t_bl, t_int, t_non, t_tup, t_lst, i_tup, i_lst, l_lst, ii_int, ii_bl, ii_tup, ii_lst, ii_str, ii_non, a_name, a_tup, a_nil, a_cons, sa_nil, sa_cons, i_at0, i_at1, i_at2, i_setR, i_ix30, i_ix31, i_ix32, i_lowI, i_lowB, i_lowN, i_lowT, p_eqT, p_neT, p_slT, p_slF, p_sl3, k_tup, k_lst, k_int, k_ins, p_app, i_isTt, i_isTl, i_isTr, l_len0, l_len1, l_len2, l_len3, l_len4, l_len5, l_len6, l_len7, l_len8, l_len9, l_len10, l_len11, l_len12, p_mulL, p_back, p_slLt, p_slLf, w_asgG, w_gName, w_gIx, w_gAttr, w_gTup, w_gNil, w_gCons, w_setAttr, p_neTP, p_eqTP, p_eqLI, p_neLI, i_recvI, Ok_ok, Ok_bad, OkS_ok, OkS_bad, OkS_then, onN_nx, onN_rt, onN_bk, onN_ct, onT_nx, onT_ct, onT_bk, onT_rt, onR_nx, onR_rt, Ok_ret, List.getElem?_cons_zero, List.getElem?_cons_succ, List.set_cons_zero, List.set_cons_succ, cut_same, Option.some.injEq, exists_eq_left', exists_eq_left, D.int.injEq, D.bl.injEq, D.tup.injEq, D.lst.injEq, D.ref.injEq, Cell.lst.injEq, Option.bind_some, Option.map_some, Bool.not_true, Bool.not_false, if_true, if_false, Bool.false_eq_true, reduceCtorEq, decide_true, decide_false, true_and, and_true, Prod.mk.injEq, and_self, String.reduceEq, Bool.or_false, Bool.false_or, Bool.or_true, Bool.true_or, Bool.and_true, Bool.true_and, Bool.and_false, Bool.false_and, reduceIte, beq_self_eq_true, at_own_rows, p_eqTP, k1, Option.isSome_some]
theorem eq_stock (k : Nat) {a b : Rws} {m : Mem} : prim P (callN P (k+1)) .eq [St a, St b] m = .ok (.bl (decide (a = b)), m) :=
  p_eqIns1 rfl (s_stock_eq k)
theorem ne_stock (k : Nat) {a b : Rws} {m : Mem} : prim P (callN P (k+2)) .ne [St a, St b] m = .ok (.bl (!decide (a = b)), m) := by
  have e : callN P (k+2) 43 [St a, St b] m = .ok (.bl (!decide (a = b)), m) := eq_of <| by
    rw [u43]
    simp only [b43, w_var, w_const, w_glob, w_op, w_nil, w_cons, w_tst, w_and, w_or, w_ife, w_chain, w_slc, w_lc, w_meth, w_meth2, w_ifs0, w_ifs1, w_over, w_range1, w_range2, w_enum, w_zip, w_expr, w_assign, w_par, w_aug, w_setIx, w_retE, w_retN, w_if, w_while, w_for, w_pass, w_brk, w_cont, w_bad, w_snil, w_scons, p_call, p_tup, p_mkT, p_mkLt, p_mkLf, p_lst, p_addI, p_addT, p_addS, p_addL, p_sub, p_mul, p_fdiv, p_mod, p_pow, p_neg, p_not, p_lt, p_le, p_gt, p_ge, p_isN, p_isnotN, p_isB, p_isnotB, p_eqI, p_neI, p_eqB, p_neB, p_len, p_lenL, p_lenC, p_ixC, p_ixT, p_ixL, p_ixR, p_max2, p_min2, p_abs, p_intI, p_intB, p_tupOf, p_listOf, p_sum, p_all, p_any, p_isI, p_isC, s_int, s_bl, s_tup, s_lst, s_str, s_non, s_ins, p_in, p_notin, t_bl, t_int, t_non, t_tup, t_lst, i_tup, i_lst, l_lst, ii_int, ii_bl, ii_tup, ii_lst, ii_str, ii_non, a_name, a_tup, a_nil, a_cons, sa_nil, sa_cons, i_at0, i_at1, i_at2, i_setR, i_ix30, i_ix31, i_ix32, i_lowI, i_lowB, i_lowN, i_lowT, p_eqT, p_neT, p_slT, p_slF, p_sl3, k_tup, k_lst, k_int, k_ins, p_app, i_isTt, i_isTl, i_isTr, l_len0, l_len1, l_len2, l_len3, l_len4, l_len5, l_len6, l_len7, l_len8, l_len9, l_len10, l_len11, l_len12, p_mulL, p_back, p_slLt, p_slLf, w_asgG, w_gName, w_gIx, w_gAttr, w_gTup, w_gNil, w_gCons, w_setAttr, p_neTP, p_eqTP, p_eqLI, p_neLI, i_recvI, Ok_ok, Ok_bad, OkS_ok, OkS_bad, OkS_then, onN_nx, onN_rt, onN_bk, onN_ct, onT_nx, onT_ct, onT_bk, onT_rt, onR_nx, onR_rt, Ok_ret, List.getElem?_cons_zero, List.getElem?_cons_succ, List.set_cons_zero, List.set_cons_succ, cut_same, Option.some.injEq, exists_eq_left', exists_eq_left, D.int.injEq, D.bl.injEq, D.tup.injEq, D.lst.injEq, D.ref.injEq, Cell.lst.injEq, Option.bind_some, Option.map_some, Bool.not_true, Bool.not_false, if_true, if_false, Bool.false_eq_true, reduceCtorEq, decide_true, decide_false, true_and, and_true, Prod.mk.injEq, and_self, String.reduceEq, Bool.or_false, Bool.false_or, Bool.or_true, Bool.true_or, Bool.and_true, Bool.true_and, Bool.and_false, Bool.false_and, reduceIte, beq_self_eq_true, eq_stock]
  exact p_neIns1 rfl e
theorem eq_stock_tup (k : Nat) {a : Rws} {xs : List D} {m : Mem} : prim P (callN P (k+1)) .eq [St a, .tup xs] m = .ok (.bl false, m) := by
  have e : callN P (k+1) 42 [St a, .tup xs] m = .ok (.bl false, m) := eq_of <| by
    rw [u42]
    simp only [b42, w_var, w_const, w_glob, w_op, w_nil, w_cons, w_tst, w_and, w_or, w_ife, w_chain, w_slc, w_lc, w_meth, w_meth2, w_ifs0, w_ifs1, w_over, w_range1, w_range2, w_enum, w_zip, w_expr, w_assign, w_par, w_aug, w_setIx, w_retE, w_retN, w_if, w_while, w_for, w_pass, w_brk, w_cont, w_bad, w_snil, w_scons, p_call, p_tup, p_mkT, p_mkLt, p_mkLf, p_lst, p_addI, p_addT, p_addS, p_addL, p_sub, p_mul, p_fdiv, p_mod, p_pow, p_neg, p_not, p_lt, p_le, p_gt, p_ge, p_isN, p_isnotN, p_isB, p_isnotB, p_eqI, p_neI, p_eqB, p_neB, p_len, p_lenL, p_lenC, p_ixC, p_ixT, p_ixL, p_ixR, p_max2, p_min2, p_abs, p_intI, p_intB, p_tupOf, p_listOf, p_sum, p_all, p_any, p_isI, p_isC, s_int, s_bl, s_tup, s_lst, s_str, s_non, s_ins, p_in, p_notin, t_bl, t_int, t_non, t_tup, t_lst, i_tup, i_lst, l_lst, ii_int, ii_bl, ii_tup, ii_lst, ii_str, ii_non, a_name, a_tup, a_nil, a_cons, sa_nil, sa_cons, i_at0, i_at1, i_at2, i_setR, i_ix30, i_ix31, i_ix32, i_lowI, i_lowB, i_lowN, i_lowT, p_eqT, p_neT, p_slT, p_slF, p_sl3, k_tup, k_lst, k_int, k_ins, p_app, i_isTt, i_isTl, i_isTr, l_len0, l_len1, l_len2, l_len3, l_len4, l_len5, l_len6, l_len7, l_len8, l_len9, l_len10, l_len11, l_len12, p_mulL, p_back, p_slLt, p_slLf, w_asgG, w_gName, w_gIx, w_gAttr, w_gTup, w_gNil, w_gCons, w_setAttr, p_neTP, p_eqTP, p_eqLI, p_neLI, i_recvI, Ok_ok, Ok_bad, OkS_ok, OkS_bad, OkS_then, onN_nx, onN_rt, onN_bk, onN_ct, onT_nx, onT_ct, onT_bk, onT_rt, onR_nx, onR_rt, Ok_ret, List.getElem?_cons_zero, List.getElem?_cons_succ, List.set_cons_zero, List.set_cons_succ, cut_same, Option.some.injEq, exists_eq_left', exists_eq_left, D.int.injEq, D.bl.injEq, D.tup.injEq, D.lst.injEq, D.ref.injEq, Cell.lst.injEq, Option.bind_some, Option.map_some, Bool.not_true, Bool.not_false, if_true, if_false, Bool.false_eq_true, reduceCtorEq, decide_true, decide_false, true_and, and_true, Prod.mk.injEq, and_self, String.reduceEq, Bool.or_false, Bool.false_or, Bool.or_true, Bool.true_or, Bool.and_true, Bool.true_and, Bool.and_false, Bool.false_and, reduceIte, beq_self_eq_true, at_own_rows, k1, Option.isSome_some]
  exact p_eqIns1 rfl e
theorem s_require_stock (k : Nat) {fs : List D} {m : Mem} : callN P (k+1) 11 [.ins 1 fs] m = .ok (.non, m) := eq_of <| by
  rw [u11]
  simp only [b11x1, b11, w_var, w_const, w_glob, w_op, w_nil, w_cons, w_tst, w_and, w_or, w_ife, w_chain, w_slc, w_lc, w_meth, w_meth2, w_ifs0, w_ifs1, w_over, w_range1, w_range2, w_enum, w_zip, w_expr, w_assign, w_par, w_aug, w_setIx, w_retE, w_retN, w_if, w_while, w_for, w_pass, w_brk, w_cont, w_bad, w_snil, w_scons, p_call, p_tup, p_mkT, p_mkLt, p_mkLf, p_lst, p_addI, p_addT, p_addS, p_addL, p_sub, p_mul, p_fdiv, p_mod, p_pow, p_neg, p_not, p_lt, p_le, p_gt, p_ge, p_isN, p_isnotN, p_isB, p_isnotB, p_eqI, p_neI, p_eqB, p_neB, p_len, p_lenL, p_lenC, p_ixC, p_ixT, p_ixL, p_ixR, p_max2, p_min2, p_abs, p_intI, p_intB, p_tupOf, p_listOf, p_sum, p_all, p_any, p_isI, p_isC, s_int, s_bl, s_tup, s_lst, s_str, s_non, s_ins, p_in, p_notin, t_bl, t_int, t_non, t_tup, t_lst, i_tup, i_lst, l_lst, ii_int, ii_bl, ii_tup, ii_lst, ii_str, ii_non, a_name, a_tup, a_nil, a_cons, sa_nil, sa_cons, i_at0, i_at1, i_at2, i_setR, i_ix30, i_ix31, i_ix32, i_lowI, i_lowB, i_lowN, i_lowT, p_eqT, p_neT, p_slT, p_slF, p_sl3, k_tup, k_lst, k_int, k_ins, p_app, i_isTt, i_isTl, i_isTr, l_len0, l_len1, l_len2, l_len3, l_len4, l_len5, l_len6, l_len7, l_len8, l_len9, l_len10, l_len11, l_len12, p_mulL, p_back, p_slLt, p_slLf, w_asgG, w_gName, w_gIx, w_gAttr, w_gTup, w_gNil, w_gCons, w_setAttr, p_neTP, p_eqTP, p_eqLI, p_neLI, i_recvI, Ok_ok, Ok_bad, OkS_ok, OkS_bad, OkS_then, onN_nx, onN_rt, onN_bk, onN_ct, onT_nx, onT_ct, onT_bk, onT_rt, onR_nx, onR_rt, Ok_ret, List.getElem?_cons_zero, List.getElem?_cons_succ, List.set_cons_zero, List.set_cons_succ, cut_same, Option.some.injEq, exists_eq_left', exists_eq_left, D.int.injEq, D.bl.injEq, D.tup.injEq, D.lst.injEq, D.ref.injEq, Cell.lst.injEq, Option.bind_some, Option.map_some, Bool.not_true, Bool.not_false, if_true, if_false, Bool.false_eq_true, reduceCtorEq, decide_true, decide_false, true_and, and_true, Prod.mk.injEq, and_self, String.reduceEq, Bool.or_false, Bool.false_or, Bool.or_true, Bool.true_or, Bool.and_true, Bool.true_and, Bool.and_false, Bool.false_and, reduceIte, beq_self_eq_true, k1, Option.isSome_some]
theorem s_require_index (k : Nat) {rs : Rws} {i : Int} {m : Mem} (h : rs.length ≤ 1000) (h0 : 0 ≤ i) (h1 : i < holdsR rs) : callN P (k+3) 12 [St rs, .int i] m = .ok (.non, m) := eq_of <| by
  rw [u12]
  have e : i ≤ holdsR rs - 1 := by omega
  simp only [b12x1, b12, w_var, w_const, w_glob, w_op, w_nil, w_cons, w_tst, w_and, w_or, w_ife, w_chain, w_slc, w_lc, w_meth, w_meth2, w_ifs0, w_ifs1, w_over, w_range1, w_range2, w_enum, w_zip, w_expr, w_assign, w_par, w_aug, w_setIx, w_retE, w_retN, w_if, w_while, w_for, w_pass, w_brk, w_cont, w_bad, w_snil, w_scons, p_call, p_tup, p_mkT, p_mkLt, p_mkLf, p_lst, p_addI, p_addT, p_addS, p_addL, p_sub, p_mul, p_fdiv, p_mod, p_pow, p_neg, p_not, p_lt, p_le, p_gt, p_ge, p_isN, p_isnotN, p_isB, p_isnotB, p_eqI, p_neI, p_eqB, p_neB, p_len, p_lenL, p_lenC, p_ixC, p_ixT, p_ixL, p_ixR, p_max2, p_min2, p_abs, p_intI, p_intB, p_tupOf, p_listOf, p_sum, p_all, p_any, p_isI, p_isC, s_int, s_bl, s_tup, s_lst, s_str, s_non, s_ins, p_in, p_notin, t_bl, t_int, t_non, t_tup, t_lst, i_tup, i_lst, l_lst, ii_int, ii_bl, ii_tup, ii_lst, ii_str, ii_non, a_name, a_tup, a_nil, a_cons, sa_nil, sa_cons, i_at0, i_at1, i_at2, i_setR, i_ix30, i_ix31, i_ix32, i_lowI, i_lowB, i_lowN, i_lowT, p_eqT, p_neT, p_slT, p_slF, p_sl3, k_tup, k_lst, k_int, k_ins, p_app, i_isTt, i_isTl, i_isTr, l_len0, l_len1, l_len2, l_len3, l_len4, l_len5, l_len6, l_len7, l_len8, l_len9, l_len10, l_len11, l_len12, p_mulL, p_back, p_slLt, p_slLf, w_asgG, w_gName, w_gIx, w_gAttr, w_gTup, w_gNil, w_gCons, w_setAttr, p_neTP, p_eqTP, p_eqLI, p_neLI, i_recvI, Ok_ok, Ok_bad, OkS_ok, OkS_bad, OkS_then, onN_nx, onN_rt, onN_bk, onN_ct, onT_nx, onT_ct, onT_bk, onT_rt, onR_nx, onR_rt, Ok_ret, List.getElem?_cons_zero, List.getElem?_cons_succ, List.set_cons_zero, List.set_cons_succ, cut_same, Option.some.injEq, exists_eq_left', exists_eq_left, D.int.injEq, D.bl.injEq, D.tup.injEq, D.lst.injEq, D.ref.injEq, Cell.lst.injEq, Option.bind_some, Option.map_some, Bool.not_true, Bool.not_false, if_true, if_false, Bool.false_eq_true, reduceCtorEq, decide_true, decide_false, true_and, and_true, Prod.mk.injEq, and_self, String.reduceEq, Bool.or_false, Bool.false_or, Bool.or_true, Bool.true_or, Bool.and_true, Bool.true_and, Bool.and_false, Bool.false_and, reduceIte, beq_self_eq_true, at_holds k h, s_is_within, h0, e]
theorem s_require_many (k : Nat) {rs : Rws} {i : Int} {m : Mem} (h : rs.length ≤ 1000) (h0 : 0 ≤ i) (h1 : i ≤ holdsR rs) : callN P (k+3) 13 [St rs, .int i] m = .ok (.non, m) := eq_of <| by
  rw [u13]
  simp only [b13x1, b13, w_var, w_const, w_glob, w_op, w_nil, w_cons, w_tst, w_and, w_or, w_ife, w_chain, w_slc, w_lc, w_meth, w_meth2, w_ifs0, w_ifs1, w_over, w_range1, w_range2, w_enum, w_zip, w_expr, w_assign, w_par, w_aug, w_setIx, w_retE, w_retN, w_if, w_while, w_for, w_pass, w_brk, w_cont, w_bad, w_snil, w_scons, p_call, p_tup, p_mkT, p_mkLt, p_mkLf, p_lst, p_addI, p_addT, p_addS, p_addL, p_sub, p_mul, p_fdiv, p_mod, p_pow, p_neg, p_not, p_lt, p_le, p_gt, p_ge, p_isN, p_isnotN, p_isB, p_isnotB, p_eqI, p_neI, p_eqB, p_neB, p_len, p_lenL, p_lenC, p_ixC, p_ixT, p_ixL, p_ixR, p_max2, p_min2, p_abs, p_intI, p_intB, p_tupOf, p_listOf, p_sum, p_all, p_any, p_isI, p_isC, s_int, s_bl, s_tup, s_lst, s_str, s_non, s_ins, p_in, p_notin, t_bl, t_int, t_non, t_tup, t_lst, i_tup, i_lst, l_lst, ii_int, ii_bl, ii_tup, ii_lst, ii_str, ii_non, a_name, a_tup, a_nil, a_cons, sa_nil, sa_cons, i_at0, i_at1, i_at2, i_setR, i_ix30, i_ix31, i_ix32, i_lowI, i_lowB, i_lowN, i_lowT, p_eqT, p_neT, p_slT, p_slF, p_sl3, k_tup, k_lst, k_int, k_ins, p_app, i_isTt, i_isTl, i_isTr, l_len0, l_len1, l_len2, l_len3, l_len4, l_len5, l_len6, l_len7, l_len8, l_len9, l_len10, l_len11, l_len12, p_mulL, p_back, p_slLt, p_slLf, w_asgG, w_gName, w_gIx, w_gAttr, w_gTup, w_gNil, w_gCons, w_setAttr, p_neTP, p_eqTP, p_eqLI, p_neLI, i_recvI, Ok_ok, Ok_bad, OkS_ok, OkS_bad, OkS_then, onN_nx, onN_rt, onN_bk, onN_ct, onT_nx, onT_ct, onT_bk, onT_rt, onR_nx, onR_rt, Ok_ret, List.getElem?_cons_zero, List.getElem?_cons_succ, List.set_cons_zero, List.set_cons_succ, cut_same, Option.some.injEq, exists_eq_left', exists_eq_left, D.int.injEq, D.bl.injEq, D.tup.injEq, D.lst.injEq, D.ref.injEq, Cell.lst.injEq, Option.bind_some, Option.map_some, Bool.not_true, Bool.not_false, if_true, if_false, Bool.false_eq_true, reduceCtorEq, decide_true, decide_false, true_and, and_true, Prod.mk.injEq, and_self, String.reduceEq, Bool.or_false, Bool.false_or, Bool.or_true, Bool.true_or, Bool.and_true, Bool.true_and, Bool.and_false, Bool.false_and, reduceIte, beq_self_eq_true, at_holds k h, s_is_within, h0, h1]
end HT

namespace HT
open Rf L2
theorem firstR_len : ∀ (rs : Rws) (n : Int), (firstR rs n).length ≤ rs.length
  | [], _ => Nat.le_refl _
  | p :: rs, n => by
    have := firstR_len rs (n - min p.2 n)
    unfold firstR
    rw [List.length_append, List.length_cons]
    split
    · simp; omega
    · simp; omega
theorem drop_at {α : Type} {xs : List α} {i : Nat} {x : α} (h : xs[i]? = some x) : xs.drop i = x :: xs.drop (i + 1) := by
  obtain ⟨h1, h2⟩ := List.getElem?_eq_some_iff.mp h
  rw [List.drop_eq_getElem_cons h1, h2]
theorem min_if (a b : Int) : (if b < a then b else a) = min a b := by
  rw [Int.min_def]
  split <;> split <;> omega
theorem s_first_in (k : Nat) (rs : Rws) (n : Int) (d : D) (m : Mem) (hd : itemsOf m d = some (rs.map pairT)) (hf : ∀ i, d ≠ .ref i) (h : rs.length ≤ 500) (hp : Pos1 rs) (hn : 0 ≤ n) : callN P (k+1) 9 [d, .int n] m = .ok (.ref m.length, m ++ [.lst ((firstR rs n).map pairT)]) := eq_of <| by
  rw [u9]
  have hd' : ∀ m', itemsOf m' d = some (rs.map pairT) := fun m' => by
    cases d <;> first | exact hd | exact absurd rfl (hf _)
  have hs : ∀ m', stands d (rs.map pairT) m' = true := fun m' => by
    cases d <;> first | rfl | exact absurd rfl (hf _)
  simp only [b9x2, b9x1t2, b9x1t1, b9x1, b9t2, b9t1, b9, w_var, w_const, w_glob, w_op, w_nil, w_cons, w_tst, w_and, w_or, w_ife, w_chain, w_slc, w_lc, w_meth, w_meth2, w_ifs0, w_ifs1, w_over, w_range1, w_range2, w_enum, w_zip, w_expr, w_assign, w_par, w_aug, w_setIx, w_retE, w_retN, w_if, w_while, w_for, w_pass, w_brk, w_cont, w_bad, w_snil, w_scons, p_call, p_tup, p_mkT, p_mkLt, p_mkLf, p_lst, p_addI, p_addT, p_addS, p_addL, p_sub, p_mul, p_fdiv, p_mod, p_pow, p_neg, p_not, p_lt, p_le, p_gt, p_ge, p_isN, p_isnotN, p_isB, p_isnotB, p_eqI, p_neI, p_eqB, p_neB, p_len, p_lenL, p_lenC, p_ixC, p_ixT, p_ixL, p_ixR, p_max2, p_min2, p_abs, p_intI, p_intB, p_tupOf, p_listOf, p_sum, p_all, p_any, p_isI, p_isC, s_int, s_bl, s_tup, s_lst, s_str, s_non, s_ins, p_in, p_notin, t_bl, t_int, t_non, t_tup, t_lst, i_tup, i_lst, l_lst, ii_int, ii_bl, ii_tup, ii_lst, ii_str, ii_non, a_name, a_tup, a_nil, a_cons, sa_nil, sa_cons, i_at0, i_at1, i_at2, i_setR, i_ix30, i_ix31, i_ix32, i_lowI, i_lowB, i_lowN, i_lowT, p_eqT, p_neT, p_slT, p_slF, p_sl3, k_tup, k_lst, k_int, k_ins, p_app, i_isTt, i_isTl, i_isTr, l_len0, l_len1, l_len2, l_len3, l_len4, l_len5, l_len6, l_len7, l_len8, l_len9, l_len10, l_len11, l_len12, p_mulL, p_back, p_slLt, p_slLf, w_asgG, w_gName, w_gIx, w_gAttr, w_gTup, w_gNil, w_gCons, w_setAttr, p_neTP, p_eqTP, p_eqLI, p_neLI, i_recvI, Ok_ok, Ok_bad, OkS_ok, OkS_bad, OkS_then, onN_nx, onN_rt, onN_bk, onN_ct, onT_nx, onT_ct, onT_bk, onT_rt, onR_nx, onR_rt, Ok_ret, List.getElem?_cons_zero, List.getElem?_cons_succ, List.set_cons_zero, List.set_cons_succ, cut_same, Option.some.injEq, exists_eq_left', exists_eq_left, D.int.injEq, D.bl.injEq, D.tup.injEq, D.lst.injEq, D.ref.injEq, Cell.lst.injEq, Option.bind_some, Option.map_some, Bool.not_true, Bool.not_false, if_true, if_false, Bool.false_eq_true, reduceCtorEq, decide_true, decide_false, true_and, and_true, Prod.mk.injEq, and_self, String.reduceEq, Bool.or_false, Bool.false_or, Bool.or_true, Bool.true_or, Bool.and_true, Bool.true_and, Bool.and_false, Bool.false_and, reduceIte, beq_self_eq_true, hd']
  refine for_ok (fun i ρ m' => ∃ n' pre x y z, ρ = [some d, some (.int n'), some (.ref m.length), x, y, z] ∧ m' = m ++ [.lst (pre.map pairT)] ∧ 0 ≤ n' ∧ pre.length ≤ i ∧ pre ++ firstR (rs.drop i) n' = firstR rs n) ⟨n, [], none, none, none, rfl, rfl, hn, Nat.le_refl _, rfl⟩ (fun _ _ _ _ => hs _) ?_ ?_
  · rintro i e ρ m' he ⟨n', pre, x, y, z, rfl, rfl, h0, hl, hf'⟩
    rw [List.getElem?_map, Option.map_eq_some_iff] at he
    obtain ⟨p, hp', rfl⟩ := he
    have hi : i < rs.length := (List.getElem?_eq_some_iff.mp hp').1
    have hpp := hp p (List.mem_of_getElem? hp')
    rw [drop_at hp'] at hf'
    refine ⟨_, rfl, ?_⟩
    simp only [w_var, w_const, w_glob, w_op, w_nil, w_cons, w_tst, w_and, w_or, w_ife, w_chain, w_slc, w_lc, w_meth, w_meth2, w_ifs0, w_ifs1, w_over, w_range1, w_range2, w_enum, w_zip, w_expr, w_assign, w_par, w_aug, w_setIx, w_retE, w_retN, w_if, w_while, w_for, w_pass, w_brk, w_cont, w_bad, w_snil, w_scons, p_call, p_tup, p_mkT, p_mkLt, p_mkLf, p_lst, p_addI, p_addT, p_addS, p_addL, p_sub, p_mul, p_fdiv, p_mod, p_pow, p_neg, p_not, p_lt, p_le, p_gt, p_ge, p_isN, p_isnotN, p_isB, p_isnotB, p_eqI, p_neI, p_eqB, p_neB, p_len, p_lenL, p_lenC, p_ixC, p_ixT, p_ixL, p_ixR, p_max2, p_min2, p_abs, p_intI, p_intB, p_tupOf, p_listOf, p_sum, p_all, p_any, p_isI, p_isC, s_int, s_bl, s_tup, s_lst, s_str, s_non, s_ins, p_in, p_notin, t_bl, t_int, t_non, t_tup, t_lst, i_tup, i_lst, l_lst, ii_int, ii_bl, ii_tup, ii_lst, ii_str, ii_non, a_name, a_tup, a_nil, a_cons, sa_nil, sa_cons, i_at0, i_at1, i_at2, i_setR, i_ix30, i_ix31, i_ix32, i_lowI, i_lowB, i_lowN, i_lowT, p_eqT, p_neT, p_slT, p_slF, p_sl3, k_tup, k_lst, k_int, k_ins, p_app, i_isTt, i_isTl, i_isTr, l_len0, l_len1, l_len2, l_len3, l_len4, l_len5, l_len6, l_len7, l_len8, l_len9, l_len10, l_len11, l_len12, p_mulL, p_back, p_slLt, p_slLf, w_asgG, w_gName, w_gIx, w_gAttr, w_gTup, w_gNil, w_gCons, w_setAttr, p_neTP, p_eqTP, p_eqLI, p_neLI, i_recvI, Ok_ok, Ok_bad, OkS_ok, OkS_bad, OkS_then, onN_nx, onN_rt, onN_bk, onN_ct, onT_nx, onT_ct, onT_bk, onT_rt, onR_nx, onR_rt, Ok_ret, List.getElem?_cons_zero, List.getElem?_cons_succ, List.set_cons_zero, List.set_cons_succ, cut_same, Option.some.injEq, exists_eq_left', exists_eq_left, D.int.injEq, D.bl.injEq, D.tup.injEq, D.lst.injEq, D.ref.injEq, Cell.lst.injEq, Option.bind_some, Option.map_some, Bool.not_true, Bool.not_false, if_true, if_false, Bool.false_eq_true, reduceCtorEq, decide_true, decide_false, true_and, and_true, Prod.mk.injEq, and_self, String.reduceEq, Bool.or_false, Bool.false_or, Bool.or_true, Bool.true_or, Bool.and_true, Bool.true_and, Bool.and_false, Bool.false_and, reduceIte, beq_self_eq_true, min_if]
    have er : recvK (.ref m.length) (m ++ [.lst (pre.map pairT)]) = 1 := recv_ref at_app
    by_cases hq : 0 < min p.2 n'
    · have hq' : decide (0 < min p.2 n') = true := decide_eq_true hq
      simp only [hq', w_var, w_const, w_glob, w_op, w_nil, w_cons, w_tst, w_and, w_or, w_ife, w_chain, w_slc, w_lc, w_meth, w_meth2, w_ifs0, w_ifs1, w_over, w_range1, w_range2, w_enum, w_zip, w_expr, w_assign, w_par, w_aug, w_setIx, w_retE, w_retN, w_if, w_while, w_for, w_pass, w_brk, w_cont, w_bad, w_snil, w_scons, p_call, p_tup, p_mkT, p_mkLt, p_mkLf, p_lst, p_addI, p_addT, p_addS, p_addL, p_sub, p_mul, p_fdiv, p_mod, p_pow, p_neg, p_not, p_lt, p_le, p_gt, p_ge, p_isN, p_isnotN, p_isB, p_isnotB, p_eqI, p_neI, p_eqB, p_neB, p_len, p_lenL, p_lenC, p_ixC, p_ixT, p_ixL, p_ixR, p_max2, p_min2, p_abs, p_intI, p_intB, p_tupOf, p_listOf, p_sum, p_all, p_any, p_isI, p_isC, s_int, s_bl, s_tup, s_lst, s_str, s_non, s_ins, p_in, p_notin, t_bl, t_int, t_non, t_tup, t_lst, i_tup, i_lst, l_lst, ii_int, ii_bl, ii_tup, ii_lst, ii_str, ii_non, a_name, a_tup, a_nil, a_cons, sa_nil, sa_cons, i_at0, i_at1, i_at2, i_setR, i_ix30, i_ix31, i_ix32, i_lowI, i_lowB, i_lowN, i_lowT, p_eqT, p_neT, p_slT, p_slF, p_sl3, k_tup, k_lst, k_int, k_ins, p_app, i_isTt, i_isTl, i_isTr, l_len0, l_len1, l_len2, l_len3, l_len4, l_len5, l_len6, l_len7, l_len8, l_len9, l_len10, l_len11, l_len12, p_mulL, p_back, p_slLt, p_slLf, w_asgG, w_gName, w_gIx, w_gAttr, w_gTup, w_gNil, w_gCons, w_setAttr, p_neTP, p_eqTP, p_eqLI, p_neLI, i_recvI, Ok_ok, Ok_bad, OkS_ok, OkS_bad, OkS_then, onN_nx, onN_rt, onN_bk, onN_ct, onT_nx, onT_ct, onT_bk, onT_rt, onR_nx, onR_rt, Ok_ret, List.getElem?_cons_zero, List.getElem?_cons_succ, List.set_cons_zero, List.set_cons_succ, cut_same, Option.some.injEq, exists_eq_left', exists_eq_left, D.int.injEq, D.bl.injEq, D.tup.injEq, D.lst.injEq, D.ref.injEq, Cell.lst.injEq, Option.bind_some, Option.map_some, Bool.not_true, Bool.not_false, if_true, if_false, Bool.false_eq_true, reduceCtorEq, decide_true, decide_false, true_and, and_true, Prod.mk.injEq, and_self, String.reduceEq, Bool.or_false, Bool.false_or, Bool.or_true, Bool.true_or, Bool.and_true, Bool.true_and, Bool.and_false, Bool.false_and, reduceIte, beq_self_eq_true, er, at_app, set_app]
      refine ⟨lim1000 (by rw [List.length_map]; omega), n' - min p.2 n', pre ++ [(p.1, min p.2 n')], _, _, _, rfl, by rw [List.map_append]; rfl, by omega, by simp; omega, ?_⟩
      rw [← hf', firstR, if_pos hq]
      simp
    · have hq' : decide (0 < min p.2 n') = false := decide_eq_false hq
      simp only [hq', w_var, w_const, w_glob, w_op, w_nil, w_cons, w_tst, w_and, w_or, w_ife, w_chain, w_slc, w_lc, w_meth, w_meth2, w_ifs0, w_ifs1, w_over, w_range1, w_range2, w_enum, w_zip, w_expr, w_assign, w_par, w_aug, w_setIx, w_retE, w_retN, w_if, w_while, w_for, w_pass, w_brk, w_cont, w_bad, w_snil, w_scons, p_call, p_tup, p_mkT, p_mkLt, p_mkLf, p_lst, p_addI, p_addT, p_addS, p_addL, p_sub, p_mul, p_fdiv, p_mod, p_pow, p_neg, p_not, p_lt, p_le, p_gt, p_ge, p_isN, p_isnotN, p_isB, p_isnotB, p_eqI, p_neI, p_eqB, p_neB, p_len, p_lenL, p_lenC, p_ixC, p_ixT, p_ixL, p_ixR, p_max2, p_min2, p_abs, p_intI, p_intB, p_tupOf, p_listOf, p_sum, p_all, p_any, p_isI, p_isC, s_int, s_bl, s_tup, s_lst, s_str, s_non, s_ins, p_in, p_notin, t_bl, t_int, t_non, t_tup, t_lst, i_tup, i_lst, l_lst, ii_int, ii_bl, ii_tup, ii_lst, ii_str, ii_non, a_name, a_tup, a_nil, a_cons, sa_nil, sa_cons, i_at0, i_at1, i_at2, i_setR, i_ix30, i_ix31, i_ix32, i_lowI, i_lowB, i_lowN, i_lowT, p_eqT, p_neT, p_slT, p_slF, p_sl3, k_tup, k_lst, k_int, k_ins, p_app, i_isTt, i_isTl, i_isTr, l_len0, l_len1, l_len2, l_len3, l_len4, l_len5, l_len6, l_len7, l_len8, l_len9, l_len10, l_len11, l_len12, p_mulL, p_back, p_slLt, p_slLf, w_asgG, w_gName, w_gIx, w_gAttr, w_gTup, w_gNil, w_gCons, w_setAttr, p_neTP, p_eqTP, p_eqLI, p_neLI, i_recvI, Ok_ok, Ok_bad, OkS_ok, OkS_bad, OkS_then, onN_nx, onN_rt, onN_bk, onN_ct, onT_nx, onT_ct, onT_bk, onT_rt, onR_nx, onR_rt, Ok_ret, List.getElem?_cons_zero, List.getElem?_cons_succ, List.set_cons_zero, List.set_cons_succ, cut_same, Option.some.injEq, exists_eq_left', exists_eq_left, D.int.injEq, D.bl.injEq, D.tup.injEq, D.lst.injEq, D.ref.injEq, Cell.lst.injEq, Option.bind_some, Option.map_some, Bool.not_true, Bool.not_false, if_true, if_false, Bool.false_eq_true, reduceCtorEq, decide_true, decide_false, true_and, and_true, Prod.mk.injEq, and_self, String.reduceEq, Bool.or_false, Bool.false_or, Bool.or_true, Bool.true_or, Bool.and_true, Bool.true_and, Bool.and_false, Bool.false_and, reduceIte, beq_self_eq_true]
      refine ⟨n' - min p.2 n', pre, _, _, _, rfl, rfl, by omega, by omega, ?_⟩
      rw [← hf', firstR, if_neg hq]
      simp
  · rintro ρ m' ⟨n', pre, x, y, z, rfl, rfl, h0, hl, hf'⟩
    rw [List.length_map, List.drop_length] at hf'
    have : pre = firstR rs n := by rw [← hf']; simp [firstR]
    subst this
    simp only [w_var, w_const, w_glob, w_op, w_nil, w_cons, w_tst, w_and, w_or, w_ife, w_chain, w_slc, w_lc, w_meth, w_meth2, w_ifs0, w_ifs1, w_over, w_range1, w_range2, w_enum, w_zip, w_expr, w_assign, w_par, w_aug, w_setIx, w_retE, w_retN, w_if, w_while, w_for, w_pass, w_brk, w_cont, w_bad, w_snil, w_scons, p_call, p_tup, p_mkT, p_mkLt, p_mkLf, p_lst, p_addI, p_addT, p_addS, p_addL, p_sub, p_mul, p_fdiv, p_mod, p_pow, p_neg, p_not, p_lt, p_le, p_gt, p_ge, p_isN, p_isnotN, p_isB, p_isnotB, p_eqI, p_neI, p_eqB, p_neB, p_len, p_lenL, p_lenC, p_ixC, p_ixT, p_ixL, p_ixR, p_max2, p_min2, p_abs, p_intI, p_intB, p_tupOf, p_listOf, p_sum, p_all, p_any, p_isI, p_isC, s_int, s_bl, s_tup, s_lst, s_str, s_non, s_ins, p_in, p_notin, t_bl, t_int, t_non, t_tup, t_lst, i_tup, i_lst, l_lst, ii_int, ii_bl, ii_tup, ii_lst, ii_str, ii_non, a_name, a_tup, a_nil, a_cons, sa_nil, sa_cons, i_at0, i_at1, i_at2, i_setR, i_ix30, i_ix31, i_ix32, i_lowI, i_lowB, i_lowN, i_lowT, p_eqT, p_neT, p_slT, p_slF, p_sl3, k_tup, k_lst, k_int, k_ins, p_app, i_isTt, i_isTl, i_isTr, l_len0, l_len1, l_len2, l_len3, l_len4, l_len5, l_len6, l_len7, l_len8, l_len9, l_len10, l_len11, l_len12, p_mulL, p_back, p_slLt, p_slLf, w_asgG, w_gName, w_gIx, w_gAttr, w_gTup, w_gNil, w_gCons, w_setAttr, p_neTP, p_eqTP, p_eqLI, p_neLI, i_recvI, Ok_ok, Ok_bad, OkS_ok, OkS_bad, OkS_then, onN_nx, onN_rt, onN_bk, onN_ct, onT_nx, onT_ct, onT_bk, onT_rt, onR_nx, onR_rt, Ok_ret, List.getElem?_cons_zero, List.getElem?_cons_succ, List.set_cons_zero, List.set_cons_succ, cut_same, Option.some.injEq, exists_eq_left', exists_eq_left, D.int.injEq, D.bl.injEq, D.tup.injEq, D.lst.injEq, D.ref.injEq, Cell.lst.injEq, Option.bind_some, Option.map_some, Bool.not_true, Bool.not_false, if_true, if_false, Bool.false_eq_true, reduceCtorEq, decide_true, decide_false, true_and, and_true, Prod.mk.injEq, and_self, String.reduceEq, Bool.or_false, Bool.false_or, Bool.or_true, Bool.true_or, Bool.and_true, Bool.true_and, Bool.and_false, Bool.false_and, reduceIte, beq_self_eq_true]
    exact cut_new
theorem s_places_in (k : Nat) (ns : List Int) (rs : Rws) (m : Mem) (h0 : ns.length ≤ 1000) (h : rs.length ≤ 1000) (h1 : ∀ n ∈ ns, 1 ≤ n ∧ Sm n = true) (h2 : ∀ p ∈ rs, 0 ≤ p.1 ∧ p.1 ≤ B60 ∧ Sm p.2 = true) : callN P (k+1) 10 [.tup (ns.map .int), .tup (rs.map pairT)] m = .ok (.lst ((ns.map fun s => rsum (· / s) rs).map .int), m) := eq_of <| by
  rw [u10]
  simp only [b10, w_var, w_const, w_glob, w_op, w_nil, w_cons, w_tst, w_and, w_or, w_ife, w_chain, w_slc, w_lc, w_meth, w_meth2, w_ifs0, w_ifs1, w_over, w_range1, w_range2, w_enum, w_zip, w_expr, w_assign, w_par, w_aug, w_setIx, w_retE, w_retN, w_if, w_while, w_for, w_pass, w_brk, w_cont, w_bad, w_snil, w_scons, p_call, p_tup, p_mkT, p_mkLt, p_mkLf, p_lst, p_addI, p_addT, p_addS, p_addL, p_sub, p_mul, p_fdiv, p_mod, p_pow, p_neg, p_not, p_lt, p_le, p_gt, p_ge, p_isN, p_isnotN, p_isB, p_isnotB, p_eqI, p_neI, p_eqB, p_neB, p_len, p_lenL, p_lenC, p_ixC, p_ixT, p_ixL, p_ixR, p_max2, p_min2, p_abs, p_intI, p_intB, p_tupOf, p_listOf, p_sum, p_all, p_any, p_isI, p_isC, s_int, s_bl, s_tup, s_lst, s_str, s_non, s_ins, p_in, p_notin, t_bl, t_int, t_non, t_tup, t_lst, i_tup, i_lst, l_lst, ii_int, ii_bl, ii_tup, ii_lst, ii_str, ii_non, a_name, a_tup, a_nil, a_cons, sa_nil, sa_cons, i_at0, i_at1, i_at2, i_setR, i_ix30, i_ix31, i_ix32, i_lowI, i_lowB, i_lowN, i_lowT, p_eqT, p_neT, p_slT, p_slF, p_sl3, k_tup, k_lst, k_int, k_ins, p_app, i_isTt, i_isTl, i_isTr, l_len0, l_len1, l_len2, l_len3, l_len4, l_len5, l_len6, l_len7, l_len8, l_len9, l_len10, l_len11, l_len12, p_mulL, p_back, p_slLt, p_slLf, w_asgG, w_gName, w_gIx, w_gAttr, w_gTup, w_gNil, w_gCons, w_setAttr, p_neTP, p_eqTP, p_eqLI, p_neLI, i_recvI, Ok_ok, Ok_bad, OkS_ok, OkS_bad, OkS_then, onN_nx, onN_rt, onN_bk, onN_ct, onT_nx, onT_ct, onT_bk, onT_rt, onR_nx, onR_rt, Ok_ret, List.getElem?_cons_zero, List.getElem?_cons_succ, List.set_cons_zero, List.set_cons_succ, cut_same, Option.some.injEq, exists_eq_left', exists_eq_left, D.int.injEq, D.bl.injEq, D.tup.injEq, D.lst.injEq, D.ref.injEq, Cell.lst.injEq, Option.bind_some, Option.map_some, Bool.not_true, Bool.not_false, if_true, if_false, Bool.false_eq_true, reduceCtorEq, decide_true, decide_false, true_and, and_true, Prod.mk.injEq, and_self, String.reduceEq, Bool.or_false, Bool.false_or, Bool.or_true, Bool.true_or, Bool.and_true, Bool.true_and, Bool.and_false, Bool.false_and, reduceIte, beq_self_eq_true, List.length_map]
  refine ⟨lim40 h0, lc_map D.int (fun s => .int (rsum (· / s) rs)) rfl (fun _ => rfl) (fun s hs => ⟨_, rfl, ?_⟩) ?_⟩
  · simp only [w_var, w_const, w_glob, w_op, w_nil, w_cons, w_tst, w_and, w_or, w_ife, w_chain, w_slc, w_lc, w_meth, w_meth2, w_ifs0, w_ifs1, w_over, w_range1, w_range2, w_enum, w_zip, w_expr, w_assign, w_par, w_aug, w_setIx, w_retE, w_retN, w_if, w_while, w_for, w_pass, w_brk, w_cont, w_bad, w_snil, w_scons, p_call, p_tup, p_mkT, p_mkLt, p_mkLf, p_lst, p_addI, p_addT, p_addS, p_addL, p_sub, p_mul, p_fdiv, p_mod, p_pow, p_neg, p_not, p_lt, p_le, p_gt, p_ge, p_isN, p_isnotN, p_isB, p_isnotB, p_eqI, p_neI, p_eqB, p_neB, p_len, p_lenL, p_lenC, p_ixC, p_ixT, p_ixL, p_ixR, p_max2, p_min2, p_abs, p_intI, p_intB, p_tupOf, p_listOf, p_sum, p_all, p_any, p_isI, p_isC, s_int, s_bl, s_tup, s_lst, s_str, s_non, s_ins, p_in, p_notin, t_bl, t_int, t_non, t_tup, t_lst, i_tup, i_lst, l_lst, ii_int, ii_bl, ii_tup, ii_lst, ii_str, ii_non, a_name, a_tup, a_nil, a_cons, sa_nil, sa_cons, i_at0, i_at1, i_at2, i_setR, i_ix30, i_ix31, i_ix32, i_lowI, i_lowB, i_lowN, i_lowT, p_eqT, p_neT, p_slT, p_slF, p_sl3, k_tup, k_lst, k_int, k_ins, p_app, i_isTt, i_isTl, i_isTr, l_len0, l_len1, l_len2, l_len3, l_len4, l_len5, l_len6, l_len7, l_len8, l_len9, l_len10, l_len11, l_len12, p_mulL, p_back, p_slLt, p_slLf, w_asgG, w_gName, w_gIx, w_gAttr, w_gTup, w_gNil, w_gCons, w_setAttr, p_neTP, p_eqTP, p_eqLI, p_neLI, i_recvI, Ok_ok, Ok_bad, OkS_ok, OkS_bad, OkS_then, onN_nx, onN_rt, onN_bk, onN_ct, onT_nx, onT_ct, onT_bk, onT_rt, onR_nx, onR_rt, Ok_ret, List.getElem?_cons_zero, List.getElem?_cons_succ, List.set_cons_zero, List.set_cons_succ, cut_same, Option.some.injEq, exists_eq_left', exists_eq_left, D.int.injEq, D.bl.injEq, D.tup.injEq, D.lst.injEq, D.ref.injEq, Cell.lst.injEq, Option.bind_some, Option.map_some, Bool.not_true, Bool.not_false, if_true, if_false, Bool.false_eq_true, reduceCtorEq, decide_true, decide_false, true_and, and_true, Prod.mk.injEq, and_self, String.reduceEq, Bool.or_false, Bool.false_or, Bool.or_true, Bool.true_or, Bool.and_true, Bool.true_and, Bool.and_false, Bool.false_and, reduceIte, beq_self_eq_true, wipeE, List.length_map]
    refine ⟨lim40 h, lc_map pairT (fun p => .int (p.1 / s * p.2)) rfl (fun _ => rfl) (fun p hp => ⟨_, rfl, ?_⟩) ?_⟩
    · have hs' := h1 s hs
      obtain ⟨a1, a2, a3⟩ := h2 p hp
      have e1 : 0 < s := by omega
      have e2 : Sm (p.1 / s) = true := by
        have : 0 ≤ p.1 / s := Int.ediv_nonneg a1 (by omega)
        have : p.1 / s ≤ p.1 := Int.ediv_le_self _ a1
        exact sm60 (by omega) (by omega)
      simp only [w_var, w_const, w_glob, w_op, w_nil, w_cons, w_tst, w_and, w_or, w_ife, w_chain, w_slc, w_lc, w_meth, w_meth2, w_ifs0, w_ifs1, w_over, w_range1, w_range2, w_enum, w_zip, w_expr, w_assign, w_par, w_aug, w_setIx, w_retE, w_retN, w_if, w_while, w_for, w_pass, w_brk, w_cont, w_bad, w_snil, w_scons, p_call, p_tup, p_mkT, p_mkLt, p_mkLf, p_lst, p_addI, p_addT, p_addS, p_addL, p_sub, p_mul, p_fdiv, p_mod, p_pow, p_neg, p_not, p_lt, p_le, p_gt, p_ge, p_isN, p_isnotN, p_isB, p_isnotB, p_eqI, p_neI, p_eqB, p_neB, p_len, p_lenL, p_lenC, p_ixC, p_ixT, p_ixL, p_ixR, p_max2, p_min2, p_abs, p_intI, p_intB, p_tupOf, p_listOf, p_sum, p_all, p_any, p_isI, p_isC, s_int, s_bl, s_tup, s_lst, s_str, s_non, s_ins, p_in, p_notin, t_bl, t_int, t_non, t_tup, t_lst, i_tup, i_lst, l_lst, ii_int, ii_bl, ii_tup, ii_lst, ii_str, ii_non, a_name, a_tup, a_nil, a_cons, sa_nil, sa_cons, i_at0, i_at1, i_at2, i_setR, i_ix30, i_ix31, i_ix32, i_lowI, i_lowB, i_lowN, i_lowT, p_eqT, p_neT, p_slT, p_slF, p_sl3, k_tup, k_lst, k_int, k_ins, p_app, i_isTt, i_isTl, i_isTr, l_len0, l_len1, l_len2, l_len3, l_len4, l_len5, l_len6, l_len7, l_len8, l_len9, l_len10, l_len11, l_len12, p_mulL, p_back, p_slLt, p_slLf, w_asgG, w_gName, w_gIx, w_gAttr, w_gTup, w_gNil, w_gCons, w_setAttr, p_neTP, p_eqTP, p_eqLI, p_neLI, i_recvI, Ok_ok, Ok_bad, OkS_ok, OkS_bad, OkS_then, onN_nx, onN_rt, onN_bk, onN_ct, onT_nx, onT_ct, onT_bk, onT_rt, onR_nx, onR_rt, Ok_ret, List.getElem?_cons_zero, List.getElem?_cons_succ, List.set_cons_zero, List.set_cons_succ, cut_same, Option.some.injEq, exists_eq_left', exists_eq_left, D.int.injEq, D.bl.injEq, D.tup.injEq, D.lst.injEq, D.ref.injEq, Cell.lst.injEq, Option.bind_some, Option.map_some, Bool.not_true, Bool.not_false, if_true, if_false, Bool.false_eq_true, reduceCtorEq, decide_true, decide_false, true_and, and_true, Prod.mk.injEq, and_self, String.reduceEq, Bool.or_false, Bool.false_or, Bool.or_true, Bool.true_or, Bool.and_true, Bool.true_and, Bool.and_false, Bool.false_and, reduceIte, beq_self_eq_true, wipeE, e1, hs'.2, mulS e2 a3]
    · simp only [w_var, w_const, w_glob, w_op, w_nil, w_cons, w_tst, w_and, w_or, w_ife, w_chain, w_slc, w_lc, w_meth, w_meth2, w_ifs0, w_ifs1, w_over, w_range1, w_range2, w_enum, w_zip, w_expr, w_assign, w_par, w_aug, w_setIx, w_retE, w_retN, w_if, w_while, w_for, w_pass, w_brk, w_cont, w_bad, w_snil, w_scons, p_call, p_tup, p_mkT, p_mkLt, p_mkLf, p_lst, p_addI, p_addT, p_addS, p_addL, p_sub, p_mul, p_fdiv, p_mod, p_pow, p_neg, p_not, p_lt, p_le, p_gt, p_ge, p_isN, p_isnotN, p_isB, p_isnotB, p_eqI, p_neI, p_eqB, p_neB, p_len, p_lenL, p_lenC, p_ixC, p_ixT, p_ixL, p_ixR, p_max2, p_min2, p_abs, p_intI, p_intB, p_tupOf, p_listOf, p_sum, p_all, p_any, p_isI, p_isC, s_int, s_bl, s_tup, s_lst, s_str, s_non, s_ins, p_in, p_notin, t_bl, t_int, t_non, t_tup, t_lst, i_tup, i_lst, l_lst, ii_int, ii_bl, ii_tup, ii_lst, ii_str, ii_non, a_name, a_tup, a_nil, a_cons, sa_nil, sa_cons, i_at0, i_at1, i_at2, i_setR, i_ix30, i_ix31, i_ix32, i_lowI, i_lowB, i_lowN, i_lowT, p_eqT, p_neT, p_slT, p_slF, p_sl3, k_tup, k_lst, k_int, k_ins, p_app, i_isTt, i_isTl, i_isTr, l_len0, l_len1, l_len2, l_len3, l_len4, l_len5, l_len6, l_len7, l_len8, l_len9, l_len10, l_len11, l_len12, p_mulL, p_back, p_slLt, p_slLf, w_asgG, w_gName, w_gIx, w_gAttr, w_gTup, w_gNil, w_gCons, w_setAttr, p_neTP, p_eqTP, p_eqLI, p_neLI, i_recvI, Ok_ok, Ok_bad, OkS_ok, OkS_bad, OkS_then, onN_nx, onN_rt, onN_bk, onN_ct, onT_nx, onT_ct, onT_bk, onT_rt, onR_nx, onR_rt, Ok_ret, List.getElem?_cons_zero, List.getElem?_cons_succ, List.set_cons_zero, List.set_cons_succ, cut_same, Option.some.injEq, exists_eq_left', exists_eq_left, D.int.injEq, D.bl.injEq, D.tup.injEq, D.lst.injEq, D.ref.injEq, Cell.lst.injEq, Option.bind_some, Option.map_some, Bool.not_true, Bool.not_false, if_true, if_false, Bool.false_eq_true, reduceCtorEq, decide_true, decide_false, true_and, and_true, Prod.mk.injEq, and_self, String.reduceEq, Bool.or_false, Bool.false_or, Bool.or_true, Bool.true_or, Bool.and_true, Bool.true_and, Bool.and_false, Bool.false_and, reduceIte, beq_self_eq_true, List.length_map, intsD_mapF]
      exact ⟨lim40 h, rfl⟩
  · simp only [w_var, w_const, w_glob, w_op, w_nil, w_cons, w_tst, w_and, w_or, w_ife, w_chain, w_slc, w_lc, w_meth, w_meth2, w_ifs0, w_ifs1, w_over, w_range1, w_range2, w_enum, w_zip, w_expr, w_assign, w_par, w_aug, w_setIx, w_retE, w_retN, w_if, w_while, w_for, w_pass, w_brk, w_cont, w_bad, w_snil, w_scons, p_call, p_tup, p_mkT, p_mkLt, p_mkLf, p_lst, p_addI, p_addT, p_addS, p_addL, p_sub, p_mul, p_fdiv, p_mod, p_pow, p_neg, p_not, p_lt, p_le, p_gt, p_ge, p_isN, p_isnotN, p_isB, p_isnotB, p_eqI, p_neI, p_eqB, p_neB, p_len, p_lenL, p_lenC, p_ixC, p_ixT, p_ixL, p_ixR, p_max2, p_min2, p_abs, p_intI, p_intB, p_tupOf, p_listOf, p_sum, p_all, p_any, p_isI, p_isC, s_int, s_bl, s_tup, s_lst, s_str, s_non, s_ins, p_in, p_notin, t_bl, t_int, t_non, t_tup, t_lst, i_tup, i_lst, l_lst, ii_int, ii_bl, ii_tup, ii_lst, ii_str, ii_non, a_name, a_tup, a_nil, a_cons, sa_nil, sa_cons, i_at0, i_at1, i_at2, i_setR, i_ix30, i_ix31, i_ix32, i_lowI, i_lowB, i_lowN, i_lowT, p_eqT, p_neT, p_slT, p_slF, p_sl3, k_tup, k_lst, k_int, k_ins, p_app, i_isTt, i_isTl, i_isTr, l_len0, l_len1, l_len2, l_len3, l_len4, l_len5, l_len6, l_len7, l_len8, l_len9, l_len10, l_len11, l_len12, p_mulL, p_back, p_slLt, p_slLf, w_asgG, w_gName, w_gIx, w_gAttr, w_gTup, w_gNil, w_gCons, w_setAttr, p_neTP, p_eqTP, p_eqLI, p_neLI, i_recvI, Ok_ok, Ok_bad, OkS_ok, OkS_bad, OkS_then, onN_nx, onN_rt, onN_bk, onN_ct, onT_nx, onT_ct, onT_bk, onT_rt, onR_nx, onR_rt, Ok_ret, List.getElem?_cons_zero, List.getElem?_cons_succ, List.set_cons_zero, List.set_cons_succ, cut_same, Option.some.injEq, exists_eq_left', exists_eq_left, D.int.injEq, D.bl.injEq, D.tup.injEq, D.lst.injEq, D.ref.injEq, Cell.lst.injEq, Option.bind_some, Option.map_some, Bool.not_true, Bool.not_false, if_true, if_false, Bool.false_eq_true, reduceCtorEq, decide_true, decide_false, true_and, and_true, Prod.mk.injEq, and_self, String.reduceEq, Bool.or_false, Bool.false_or, Bool.or_true, Bool.true_or, Bool.and_true, Bool.true_and, Bool.and_false, Bool.false_and, reduceIte, beq_self_eq_true, List.length_map, List.map_map]
    exact ⟨lim40 h0, rfl⟩
theorem RowsOk.sm2 {rs : Rws} (h : RowsOk rs) : ∀ p ∈ rs, 0 ≤ p.1 ∧ p.1 ≤ B60 ∧ Sm p.2 = true := fun p hp => by
  have := h.all p hp
  exact ⟨by omega, by omega, (h.sm p hp).2⟩
theorem Sizes.sm {ns : List Int} (h : Sizes ns) : ∀ n ∈ ns, 1 ≤ n ∧ Sm n = true := fun n hn => by
  have := h.all n hn
  exact ⟨this.1, sm60 (by omega) this.2⟩
def placesR (ns : List Int) (rs : Rws) : List Int := ns.map fun s => rsum (· / s) rs
theorem s_places (k : Nat) {ns : List Int} {rs : Rws} {m : Mem} (h : Sizes ns) (hr : RowsOk rs) : callN P (k+2) 15 [Sc ns, St rs] m = .ok (.tup ((placesR ns rs).map .int), m) := eq_of <| by
  rw [u15]
  simp only [b15t2, b15t1, b15, w_var, w_const, w_glob, w_op, w_nil, w_cons, w_tst, w_and, w_or, w_ife, w_chain, w_slc, w_lc, w_meth, w_meth2, w_ifs0, w_ifs1, w_over, w_range1, w_range2, w_enum, w_zip, w_expr, w_assign, w_par, w_aug, w_setIx, w_retE, w_retN, w_if, w_while, w_for, w_pass, w_brk, w_cont, w_bad, w_snil, w_scons, p_call, p_tup, p_mkT, p_mkLt, p_mkLf, p_lst, p_addI, p_addT, p_addS, p_addL, p_sub, p_mul, p_fdiv, p_mod, p_pow, p_neg, p_not, p_lt, p_le, p_gt, p_ge, p_isN, p_isnotN, p_isB, p_isnotB, p_eqI, p_neI, p_eqB, p_neB, p_len, p_lenL, p_lenC, p_ixC, p_ixT, p_ixL, p_ixR, p_max2, p_min2, p_abs, p_intI, p_intB, p_tupOf, p_listOf, p_sum, p_all, p_any, p_isI, p_isC, s_int, s_bl, s_tup, s_lst, s_str, s_non, s_ins, p_in, p_notin, t_bl, t_int, t_non, t_tup, t_lst, i_tup, i_lst, l_lst, ii_int, ii_bl, ii_tup, ii_lst, ii_str, ii_non, a_name, a_tup, a_nil, a_cons, sa_nil, sa_cons, i_at0, i_at1, i_at2, i_setR, i_ix30, i_ix31, i_ix32, i_lowI, i_lowB, i_lowN, i_lowT, p_eqT, p_neT, p_slT, p_slF, p_sl3, k_tup, k_lst, k_int, k_ins, p_app, i_isTt, i_isTl, i_isTr, l_len0, l_len1, l_len2, l_len3, l_len4, l_len5, l_len6, l_len7, l_len8, l_len9, l_len10, l_len11, l_len12, p_mulL, p_back, p_slLt, p_slLf, w_asgG, w_gName, w_gIx, w_gAttr, w_gTup, w_gNil, w_gCons, w_setAttr, p_neTP, p_eqTP, p_eqLI, p_neLI, i_recvI, Ok_ok, Ok_bad, OkS_ok, OkS_bad, OkS_then, onN_nx, onN_rt, onN_bk, onN_ct, onT_nx, onT_ct, onT_bk, onT_rt, onR_nx, onR_rt, Ok_ret, List.getElem?_cons_zero, List.getElem?_cons_succ, List.set_cons_zero, List.set_cons_succ, cut_same, Option.some.injEq, exists_eq_left', exists_eq_left, D.int.injEq, D.bl.injEq, D.tup.injEq, D.lst.injEq, D.ref.injEq, Cell.lst.injEq, Option.bind_some, Option.map_some, Bool.not_true, Bool.not_false, if_true, if_false, Bool.false_eq_true, reduceCtorEq, decide_true, decide_false, true_and, and_true, Prod.mk.injEq, and_self, String.reduceEq, Bool.or_false, Bool.false_or, Bool.or_true, Bool.true_or, Bool.and_true, Bool.true_and, Bool.and_false, Bool.false_and, reduceIte, beq_self_eq_true, s_require_scale, s_require_stock, at_sizes, at_rows, s_places_in k ns rs m (by have := h.len'; omega) (by have := hr.len; omega) h.sm hr.sm2]
  rfl
end HT

namespace HT
open Rf L2
theorem mem_expand {rs : Rws} {x : Int} (h : x ∈ expand rs) : ∃ p ∈ rs, x = p.1 := by
  obtain ⟨l, hl, hx⟩ := List.mem_flatten.mp h
  obtain ⟨p, hp, rfl⟩ := List.mem_map.mp hl
  exact ⟨p, hp, List.eq_of_mem_replicate hx⟩
theorem expand_mem {rs : Rws} (h : Pos1 rs) {p : Int × Int} (hp : p ∈ rs) : p.1 ∈ expand rs := by
  refine List.mem_flatten.mpr ⟨_, List.mem_map.mpr ⟨p, hp, rfl⟩, ?_⟩
  have := h p hp
  obtain ⟨n, hn⟩ : ∃ n, p.2.toNat = n + 1 := ⟨p.2.toNat - 1, by omega⟩
  rw [hn]
  simp
theorem sum_ge {f : α → Int} : ∀ {xs : List α}, (∀ x ∈ xs, 0 ≤ f x) → ∀ x ∈ xs, f x ≤ (xs.map f).sum
  | [], _, x, hx => by cases hx
  | y :: xs, h, x, hx => by
    have hy := h y List.mem_cons_self
    have h' : ∀ x ∈ xs, 0 ≤ f x := fun z hz => h z (List.mem_cons_of_mem _ hz)
    have hs : 0 ≤ (xs.map f).sum := sum_nn fun n hn => by
      obtain ⟨z, hz, rfl⟩ := List.mem_map.mp hn
      exact h' z hz
    simp only [List.map_cons, List.sum_cons]
    rcases List.mem_cons.mp hx with rfl | hx
    · omega
    · have := sum_ge h' x hx
      omega
theorem RowsOk.of {rs : Rws} (hl : rs.length ≤ 200) (hp : Pos1 rs) (hx : ∀ x ∈ expand rs, 1 ≤ x) (hs : (expand rs).sum ≤ B60) : RowsOk rs := by
  have e : rsum id rs = (expand rs).sum := by rw [rsum_expand id hp, List.map_id]
  have hr : ∀ p ∈ rs, 1 ≤ p.1 := fun p h => hx _ (expand_mem hp h)
  refine ⟨hl, fun p h => ?_, by omega⟩
  have h1 := hr p h
  have h2 := hp p h
  have h3 : p.1 * p.2 ≤ rsum id rs := sum_ge (f := fun p : Int × Int => id p.1 * p.2) (fun q hq => Int.mul_nonneg (by have := hr q hq; simp only [id]; omega) (by have := hp q hq; omega)) p h
  have h4 : p.1 * 1 ≤ p.1 * p.2 := Int.mul_le_mul_of_nonneg_left h2 (by omega)
  have h5 : 1 * p.2 ≤ p.1 * p.2 := Int.mul_le_mul_of_nonneg_right h1 (by omega)
  omega
theorem RowsOk.rooms {rs : Rws} (h : RowsOk rs) : (∀ x ∈ expand rs, 1 ≤ x) ∧ (expand rs).sum ≤ B60 := by
  refine ⟨fun x hx => ?_, ?_⟩
  · obtain ⟨p, hp, rfl⟩ := mem_expand hx
    exact (h.all p hp).1.1
  · have := h.room
    rw [rsum_expand id h.pos, List.map_id] at this
    exact this
theorem take_sum {xs : List Int} (h : ∀ x ∈ xs, 1 ≤ x) (n : Nat) : (xs.take n).sum ≤ xs.sum := by
  have e := congrArg List.sum (List.take_append_drop n xs)
  rw [List.sum_append] at e
  have : 0 ≤ (xs.drop n).sum := sum_nn fun x hx => by have := h x (List.mem_of_mem_drop hx); omega
  omega
theorem RowsOk.lean {rs : Rws} (h : RowsOk rs) : RowsOk (leanR rs) := by
  obtain ⟨h1, h2⟩ := h.rooms
  have e := leanR_expand h.pos
  exact .of (Nat.le_trans (leanR_len rs) h.len) (leanR_lean h.pos).pos (by rw [e]; exact h1) (by rw [e]; exact h2)
theorem RowsOk.first {rs : Rws} (h : RowsOk rs) {n : Int} (hn : 0 ≤ n) : RowsOk (firstR rs n) := by
  obtain ⟨h1, h2⟩ := h.rooms
  have e := firstR_expand h.pos hn
  refine .of (Nat.le_trans (firstR_len rs n) h.len) (firstR_pos rs n) (by rw [e]; exact fun x hx => h1 x (List.mem_of_mem_take hx)) (by rw [e]; exact Int.le_trans (take_sum h1 _) h2)
theorem RowsOk.great {rs : Rws} (h : RowsOk rs) : RowsOk (rs.mergeSort lexLe).reverse := by
  obtain ⟨h1, h2⟩ := h.rooms
  have e := expand_great rs
  have hp : (sortI (expand rs)).reverse.Perm (expand rs) := (List.reverse_perm _).trans (sortI_perm _)
  refine .of ?_ (pos_sort h.pos) (by rw [e]; exact fun x hx => h1 x (hp.mem_iff.mp hx)) (by rw [e, sum_perm hp]; exact h2)
  rw [List.length_reverse, List.length_mergeSort]
  exact h.len
def roundR (rs : Rws) (s : Int) : Rws := (rs.filter fun p => decide (s ≤ p.1)).map fun p => (p.1 / s * s, p.2)
theorem round_pos {rs : Rws} (h : Pos1 rs) (s : Int) : Pos1 (roundR rs s) := fun p hp => by
  obtain ⟨q, hq, rfl⟩ := List.mem_map.mp hp
  exact h q (List.mem_filter.mp hq).1
def roundX (xs : List Int) (s : Int) : List Int := (xs.filter fun x => decide (s ≤ x)).map fun x => x / s * s
theorem round_expand (s : Int) : ∀ rs : Rws, expand (roundR rs s) = roundX (expand rs) s
  | [] => rfl
  | p :: rs => by
    have ih := round_expand s rs
    unfold roundR roundX at ih ⊢
    rw [expand_cons, List.filter_append, List.map_append, ← ih, List.filter_cons, List.filter_replicate]
    by_cases hs : s ≤ p.1
    · simp only [hs, decide_true, if_true, List.map_cons, expand_cons, List.map_replicate]
    · simp [hs]
theorem roundX_ok {xs : List Int} {s : Int} (hs : 1 ≤ s) (h : ∀ x ∈ xs, 1 ≤ x) : (∀ x ∈ roundX xs s, 1 ≤ x) ∧ (roundX xs s).sum ≤ xs.sum := by
  induction xs with
  | nil => exact ⟨fun x hx => by simp [roundX] at hx, by simp [roundX]⟩
  | cons y xs ih =>
    obtain ⟨h1, h2⟩ := ih fun x hx => h x (List.mem_cons_of_mem _ hx)
    have hy := h y List.mem_cons_self
    unfold roundX at h1 h2 ⊢
    rw [List.filter_cons]
    by_cases e : s ≤ y
    · have h3 : y / s * s ≤ y := Int.ediv_mul_le y (by omega)
      have h4 : 1 ≤ y / s := (Int.le_ediv_iff_mul_le (by omega)).mpr (by omega)
      have h5 : 1 * s ≤ y / s * s := Int.mul_le_mul_of_nonneg_right h4 (by omega)
      simp only [e, decide_true, if_true, List.map_cons, List.sum_cons]
      refine ⟨fun x hx => ?_, by omega⟩
      rcases List.mem_cons.mp hx with rfl | hx
      · omega
      · exact h1 x hx
    · simp only [e, decide_false, Bool.false_eq_true, if_false, List.sum_cons]
      exact ⟨h1, by omega⟩
theorem RowsOk.round {rs : Rws} (h : RowsOk rs) {s : Int} (hs : 1 ≤ s) : RowsOk (roundR rs s) := by
  obtain ⟨h1, h2⟩ := h.rooms
  obtain ⟨h3, h4⟩ := roundX_ok hs h1
  have e := round_expand s rs
  refine .of ?_ (round_pos h.pos s) (by rw [e]; exact h3) (by rw [e]; omega)
  unfold roundR
  rw [List.length_map]
  exact Nat.le_trans (List.length_filter_le ..) h.len
theorem holds_len {rs : Rws} (h : Pos1 rs) : holdsR rs = ((expand rs).length : Int) := tsum_expand h
theorem s_first_holds (k : Nat) {rs : Rws} {n : Int} {m : Mem} (h : RowsOk rs) (h0 : 0 ≤ n) (h1 : n ≤ holdsR rs) : callN P (k+6) 16 [St rs, .int n] m = .ok (St (rle ((expand rs).take n.toNat)), m) := eq_of <| by
  rw [u16]
  have hl := h.len
  have e : leanR (firstR rs n) = rle ((expand rs).take n.toNat) := by rw [leanR_rle (firstR_pos rs n), firstR_expand h.pos h0]
  simp only [b16t2, b16t1, b16, w_var, w_const, w_glob, w_op, w_nil, w_cons, w_tst, w_and, w_or, w_ife, w_chain, w_slc, w_lc, w_meth, w_meth2, w_ifs0, w_ifs1, w_over, w_range1, w_range2, w_enum, w_zip, w_expr, w_assign, w_par, w_aug, w_setIx, w_retE, w_retN, w_if, w_while, w_for, w_pass, w_brk, w_cont, w_bad, w_snil, w_scons, p_call, p_tup, p_mkT, p_mkLt, p_mkLf, p_lst, p_addI, p_addT, p_addS, p_addL, p_sub, p_mul, p_fdiv, p_mod, p_pow, p_neg, p_not, p_lt, p_le, p_gt, p_ge, p_isN, p_isnotN, p_isB, p_isnotB, p_eqI, p_neI, p_eqB, p_neB, p_len, p_lenL, p_lenC, p_ixC, p_ixT, p_ixL, p_ixR, p_max2, p_min2, p_abs, p_intI, p_intB, p_tupOf, p_listOf, p_sum, p_all, p_any, p_isI, p_isC, s_int, s_bl, s_tup, s_lst, s_str, s_non, s_ins, p_in, p_notin, t_bl, t_int, t_non, t_tup, t_lst, i_tup, i_lst, l_lst, ii_int, ii_bl, ii_tup, ii_lst, ii_str, ii_non, a_name, a_tup, a_nil, a_cons, sa_nil, sa_cons, i_at0, i_at1, i_at2, i_setR, i_ix30, i_ix31, i_ix32, i_lowI, i_lowB, i_lowN, i_lowT, p_eqT, p_neT, p_slT, p_slF, p_sl3, k_tup, k_lst, k_int, k_ins, p_app, i_isTt, i_isTl, i_isTr, l_len0, l_len1, l_len2, l_len3, l_len4, l_len5, l_len6, l_len7, l_len8, l_len9, l_len10, l_len11, l_len12, p_mulL, p_back, p_slLt, p_slLf, w_asgG, w_gName, w_gIx, w_gAttr, w_gTup, w_gNil, w_gCons, w_setAttr, p_neTP, p_eqTP, p_eqLI, p_neLI, i_recvI, Ok_ok, Ok_bad, OkS_ok, OkS_bad, OkS_then, onN_nx, onN_rt, onN_bk, onN_ct, onT_nx, onT_ct, onT_bk, onT_rt, onR_nx, onR_rt, Ok_ret, List.getElem?_cons_zero, List.getElem?_cons_succ, List.set_cons_zero, List.set_cons_succ, cut_same, Option.some.injEq, exists_eq_left', exists_eq_left, D.int.injEq, D.bl.injEq, D.tup.injEq, D.lst.injEq, D.ref.injEq, Cell.lst.injEq, Option.bind_some, Option.map_some, Bool.not_true, Bool.not_false, if_true, if_false, Bool.false_eq_true, reduceCtorEq, decide_true, decide_false, true_and, and_true, Prod.mk.injEq, and_self, String.reduceEq, Bool.or_false, Bool.false_or, Bool.or_true, Bool.true_or, Bool.and_true, Bool.true_and, Bool.and_false, Bool.false_and, reduceIte, beq_self_eq_true, s_require_stock, s_require_many (k+2) (by omega : rs.length ≤ 1000) h0 h1, at_rows, s_first_in (k+4) rs n (.tup (rs.map pairT)) m rfl (fun _ => by simp) (by omega) h.pos h0, i_ref at_app]
  rw [← e, Ok_of (new_stock k _ (h.first h0))]
  exact cut_app (by simp only [St, D.low, D.lows, lows_pairs, Bool.and_self])
theorem s_greatest_holds (k : Nat) {rs : Rws} {n : Int} {m : Mem} (h : RowsOk rs) (h0 : 0 ≤ n) (h1 : n ≤ holdsR rs) : callN P (k+6) 17 [St rs, .int n] m = .ok (St (rle ((sortI (expand rs)).reverse.take n.toNat)), m) := eq_of <| by
  rw [u17]
  have hl := h.len
  have hg := h.great
  have e : leanR (firstR (rs.mergeSort lexLe).reverse n) = rle ((sortI (expand rs)).reverse.take n.toNat) := by rw [leanR_rle (firstR_pos _ n), firstR_expand hg.pos h0, expand_great]
  have e2 : ((rs.mergeSort lexLe).map pairT).reverse = (rs.mergeSort lexLe).reverse.map pairT := by rw [List.map_reverse]
  simp only [b17t2, b17t1, b17, w_var, w_const, w_glob, w_op, w_nil, w_cons, w_tst, w_and, w_or, w_ife, w_chain, w_slc, w_lc, w_meth, w_meth2, w_ifs0, w_ifs1, w_over, w_range1, w_range2, w_enum, w_zip, w_expr, w_assign, w_par, w_aug, w_setIx, w_retE, w_retN, w_if, w_while, w_for, w_pass, w_brk, w_cont, w_bad, w_snil, w_scons, p_call, p_tup, p_mkT, p_mkLt, p_mkLf, p_lst, p_addI, p_addT, p_addS, p_addL, p_sub, p_mul, p_fdiv, p_mod, p_pow, p_neg, p_not, p_lt, p_le, p_gt, p_ge, p_isN, p_isnotN, p_isB, p_isnotB, p_eqI, p_neI, p_eqB, p_neB, p_len, p_lenL, p_lenC, p_ixC, p_ixT, p_ixL, p_ixR, p_max2, p_min2, p_abs, p_intI, p_intB, p_tupOf, p_listOf, p_sum, p_all, p_any, p_isI, p_isC, s_int, s_bl, s_tup, s_lst, s_str, s_non, s_ins, p_in, p_notin, t_bl, t_int, t_non, t_tup, t_lst, i_tup, i_lst, l_lst, ii_int, ii_bl, ii_tup, ii_lst, ii_str, ii_non, a_name, a_tup, a_nil, a_cons, sa_nil, sa_cons, i_at0, i_at1, i_at2, i_setR, i_ix30, i_ix31, i_ix32, i_lowI, i_lowB, i_lowN, i_lowT, p_eqT, p_neT, p_slT, p_slF, p_sl3, k_tup, k_lst, k_int, k_ins, p_app, i_isTt, i_isTl, i_isTr, l_len0, l_len1, l_len2, l_len3, l_len4, l_len5, l_len6, l_len7, l_len8, l_len9, l_len10, l_len11, l_len12, p_mulL, p_back, p_slLt, p_slLf, w_asgG, w_gName, w_gIx, w_gAttr, w_gTup, w_gNil, w_gCons, w_setAttr, p_neTP, p_eqTP, p_eqLI, p_neLI, i_recvI, Ok_ok, Ok_bad, OkS_ok, OkS_bad, OkS_then, onN_nx, onN_rt, onN_bk, onN_ct, onT_nx, onT_ct, onT_bk, onT_rt, onR_nx, onR_rt, Ok_ret, List.getElem?_cons_zero, List.getElem?_cons_succ, List.set_cons_zero, List.set_cons_succ, cut_same, Option.some.injEq, exists_eq_left', exists_eq_left, D.int.injEq, D.bl.injEq, D.tup.injEq, D.lst.injEq, D.ref.injEq, Cell.lst.injEq, Option.bind_some, Option.map_some, Bool.not_true, Bool.not_false, if_true, if_false, Bool.false_eq_true, reduceCtorEq, decide_true, decide_false, true_and, and_true, Prod.mk.injEq, and_self, String.reduceEq, Bool.or_false, Bool.false_or, Bool.or_true, Bool.true_or, Bool.and_true, Bool.true_and, Bool.and_false, Bool.false_and, reduceIte, beq_self_eq_true, s_require_stock, s_require_many (k+2) (by omega : rs.length ≤ 1000) h0 h1, at_rows, sort_pairs (i_tup) (.inl rfl), e2, List.length_map, List.length_mergeSort, List.length_reverse, s_first_in (k+4) _ n (.lst ((rs.mergeSort lexLe).reverse.map pairT)) m rfl (fun _ => by simp) (by have := hg.len; omega) hg.pos h0, i_ref at_app]
  rw [← e, Ok_of (new_stock k _ (hg.first h0))]
  exact ⟨lim40 (by omega), lim40 (by omega), cut_app (by simp only [St, D.low, D.lows, lows_pairs, Bool.and_self])⟩
theorem s_joined (k : Nat) {a b : Rws} {m : Mem} (ha : RowsOk a) (hb : RowsOk b) (hl : a.length + b.length ≤ 200) (hs : (expand a).sum + (expand b).sum ≤ B60) : callN P (k+6) 18 [St a, St b] m = .ok (St (rle (expand a ++ expand b)), m) := eq_of <| by
  rw [u18]
  have hp : Pos1 (a ++ b) := fun p hp => by
    rcases List.mem_append.mp hp with hp | hp
    · exact ha.pos p hp
    · exact hb.pos p hp
  have hab : RowsOk (a ++ b) := .of (by simpa using hl) hp (by
    rw [expand_app]
    intro x hx
    rcases List.mem_append.mp hx with hx | hx
    · exact ha.rooms.1 x hx
    · exact hb.rooms.1 x hx) (by rw [expand_app, List.sum_append]; exact hs)
  have e : leanR (leanR (a ++ b)) = rle (expand a ++ expand b) := by rw [leanR_self (leanR_lean hp), leanR_rle hp, expand_app]
  have r1 : rsum id a = (expand a).sum := by rw [rsum_expand id ha.pos, List.map_id]
  have r2 : rsum id b = (expand b).sum := by rw [rsum_expand id hb.pos, List.map_id]
  have hq : ¬ B60 < rsum id a + rsum id b := by omega
  have hll : ¬ (200 : Int) < (leanR (a ++ b)).length := by
    have := leanR_len (a ++ b)
    simp at this
    omega
  have hal : a.length ≤ 1000 := by omega
  have hbl : b.length ≤ 1000 := by omega
  simp only [b18x1, b18x2, b18t5, b18t4, b18t3, b18t2, b18t1, b18, w_var, w_const, w_glob, w_op, w_nil, w_cons, w_tst, w_and, w_or, w_ife, w_chain, w_slc, w_lc, w_meth, w_meth2, w_ifs0, w_ifs1, w_over, w_range1, w_range2, w_enum, w_zip, w_expr, w_assign, w_par, w_aug, w_setIx, w_retE, w_retN, w_if, w_while, w_for, w_pass, w_brk, w_cont, w_bad, w_snil, w_scons, p_call, p_tup, p_mkT, p_mkLt, p_mkLf, p_lst, p_addI, p_addT, p_addS, p_addL, p_sub, p_mul, p_fdiv, p_mod, p_pow, p_neg, p_not, p_lt, p_le, p_gt, p_ge, p_isN, p_isnotN, p_isB, p_isnotB, p_eqI, p_neI, p_eqB, p_neB, p_len, p_lenL, p_lenC, p_ixC, p_ixT, p_ixL, p_ixR, p_max2, p_min2, p_abs, p_intI, p_intB, p_tupOf, p_listOf, p_sum, p_all, p_any, p_isI, p_isC, s_int, s_bl, s_tup, s_lst, s_str, s_non, s_ins, p_in, p_notin, t_bl, t_int, t_non, t_tup, t_lst, i_tup, i_lst, l_lst, ii_int, ii_bl, ii_tup, ii_lst, ii_str, ii_non, a_name, a_tup, a_nil, a_cons, sa_nil, sa_cons, i_at0, i_at1, i_at2, i_setR, i_ix30, i_ix31, i_ix32, i_lowI, i_lowB, i_lowN, i_lowT, p_eqT, p_neT, p_slT, p_slF, p_sl3, k_tup, k_lst, k_int, k_ins, p_app, i_isTt, i_isTl, i_isTr, l_len0, l_len1, l_len2, l_len3, l_len4, l_len5, l_len6, l_len7, l_len8, l_len9, l_len10, l_len11, l_len12, p_mulL, p_back, p_slLt, p_slLf, w_asgG, w_gName, w_gIx, w_gAttr, w_gTup, w_gNil, w_gCons, w_setAttr, p_neTP, p_eqTP, p_eqLI, p_neLI, i_recvI, Ok_ok, Ok_bad, OkS_ok, OkS_bad, OkS_then, onN_nx, onN_rt, onN_bk, onN_ct, onT_nx, onT_ct, onT_bk, onT_rt, onR_nx, onR_rt, Ok_ret, List.getElem?_cons_zero, List.getElem?_cons_succ, List.set_cons_zero, List.set_cons_succ, cut_same, Option.some.injEq, exists_eq_left', exists_eq_left, D.int.injEq, D.bl.injEq, D.tup.injEq, D.lst.injEq, D.ref.injEq, Cell.lst.injEq, Option.bind_some, Option.map_some, Bool.not_true, Bool.not_false, if_true, if_false, Bool.false_eq_true, reduceCtorEq, decide_true, decide_false, true_and, and_true, Prod.mk.injEq, and_self, String.reduceEq, Bool.or_false, Bool.false_or, Bool.or_true, Bool.true_or, Bool.and_true, Bool.true_and, Bool.and_false, Bool.false_and, reduceIte, beq_self_eq_true, s_require_stock, at_rows, at_room (k+3) hal ha.sm, at_room (k+3) hbl hb.sm, c_room, c2, hq, ← List.map_append, s_lean (k+4) (a ++ b) m (by simp; omega), List.length_map, hll]
  rw [← e, Ok_of (new_stock k _ hab.lean), cut_same]
  exact ⟨lim40 (by simp; omega), rfl⟩
theorem s_rounded (k : Nat) {rs : Rws} {s : Int} {m : Mem} (h : RowsOk rs) (h0 : 1 ≤ s) (h1 : s ≤ B60) : callN P (k+6) 19 [St rs, .int s] m = .ok (St (rle (roundX (expand rs) s)), m) := eq_of <| by
  rw [u19]
  have hl := h.len
  have hs : Sm s = true := sm60 (by omega) h1
  have e : leanR (roundR rs s) = rle (roundX (expand rs) s) := by rw [leanR_rle (round_pos h.pos s), round_expand]
  have hs0 : 0 < s := by omega
  simp only [b19x1, b19t2, b19t1, b19, w_var, w_const, w_glob, w_op, w_nil, w_cons, w_tst, w_and, w_or, w_ife, w_chain, w_slc, w_lc, w_meth, w_meth2, w_ifs0, w_ifs1, w_over, w_range1, w_range2, w_enum, w_zip, w_expr, w_assign, w_par, w_aug, w_setIx, w_retE, w_retN, w_if, w_while, w_for, w_pass, w_brk, w_cont, w_bad, w_snil, w_scons, p_call, p_tup, p_mkT, p_mkLt, p_mkLf, p_lst, p_addI, p_addT, p_addS, p_addL, p_sub, p_mul, p_fdiv, p_mod, p_pow, p_neg, p_not, p_lt, p_le, p_gt, p_ge, p_isN, p_isnotN, p_isB, p_isnotB, p_eqI, p_neI, p_eqB, p_neB, p_len, p_lenL, p_lenC, p_ixC, p_ixT, p_ixL, p_ixR, p_max2, p_min2, p_abs, p_intI, p_intB, p_tupOf, p_listOf, p_sum, p_all, p_any, p_isI, p_isC, s_int, s_bl, s_tup, s_lst, s_str, s_non, s_ins, p_in, p_notin, t_bl, t_int, t_non, t_tup, t_lst, i_tup, i_lst, l_lst, ii_int, ii_bl, ii_tup, ii_lst, ii_str, ii_non, a_name, a_tup, a_nil, a_cons, sa_nil, sa_cons, i_at0, i_at1, i_at2, i_setR, i_ix30, i_ix31, i_ix32, i_lowI, i_lowB, i_lowN, i_lowT, p_eqT, p_neT, p_slT, p_slF, p_sl3, k_tup, k_lst, k_int, k_ins, p_app, i_isTt, i_isTl, i_isTr, l_len0, l_len1, l_len2, l_len3, l_len4, l_len5, l_len6, l_len7, l_len8, l_len9, l_len10, l_len11, l_len12, p_mulL, p_back, p_slLt, p_slLf, w_asgG, w_gName, w_gIx, w_gAttr, w_gTup, w_gNil, w_gCons, w_setAttr, p_neTP, p_eqTP, p_eqLI, p_neLI, i_recvI, Ok_ok, Ok_bad, OkS_ok, OkS_bad, OkS_then, onN_nx, onN_rt, onN_bk, onN_ct, onT_nx, onT_ct, onT_bk, onT_rt, onR_nx, onR_rt, Ok_ret, List.getElem?_cons_zero, List.getElem?_cons_succ, List.set_cons_zero, List.set_cons_succ, cut_same, Option.some.injEq, exists_eq_left', exists_eq_left, D.int.injEq, D.bl.injEq, D.tup.injEq, D.lst.injEq, D.ref.injEq, Cell.lst.injEq, Option.bind_some, Option.map_some, Bool.not_true, Bool.not_false, if_true, if_false, Bool.false_eq_true, reduceCtorEq, decide_true, decide_false, true_and, and_true, Prod.mk.injEq, and_self, String.reduceEq, Bool.or_false, Bool.false_or, Bool.or_true, Bool.true_or, Bool.and_true, Bool.true_and, Bool.and_false, Bool.false_and, reduceIte, beq_self_eq_true, s_require_stock, s_is_within, c_room, h0, h1, at_rows, List.length_map]
  refine ⟨lim40 (by omega), lc_pure pairT (fun p => pairT (p.1 / s * s, p.2)) (fun p => decide (s ≤ p.1)) rfl (fun p hp => ⟨_, rfl, ?_⟩) ?_⟩
  · simp only [w_var, w_const, w_glob, w_op, w_nil, w_cons, w_tst, w_and, w_or, w_ife, w_chain, w_slc, w_lc, w_meth, w_meth2, w_ifs0, w_ifs1, w_over, w_range1, w_range2, w_enum, w_zip, w_expr, w_assign, w_par, w_aug, w_setIx, w_retE, w_retN, w_if, w_while, w_for, w_pass, w_brk, w_cont, w_bad, w_snil, w_scons, p_call, p_tup, p_mkT, p_mkLt, p_mkLf, p_lst, p_addI, p_addT, p_addS, p_addL, p_sub, p_mul, p_fdiv, p_mod, p_pow, p_neg, p_not, p_lt, p_le, p_gt, p_ge, p_isN, p_isnotN, p_isB, p_isnotB, p_eqI, p_neI, p_eqB, p_neB, p_len, p_lenL, p_lenC, p_ixC, p_ixT, p_ixL, p_ixR, p_max2, p_min2, p_abs, p_intI, p_intB, p_tupOf, p_listOf, p_sum, p_all, p_any, p_isI, p_isC, s_int, s_bl, s_tup, s_lst, s_str, s_non, s_ins, p_in, p_notin, t_bl, t_int, t_non, t_tup, t_lst, i_tup, i_lst, l_lst, ii_int, ii_bl, ii_tup, ii_lst, ii_str, ii_non, a_name, a_tup, a_nil, a_cons, sa_nil, sa_cons, i_at0, i_at1, i_at2, i_setR, i_ix30, i_ix31, i_ix32, i_lowI, i_lowB, i_lowN, i_lowT, p_eqT, p_neT, p_slT, p_slF, p_sl3, k_tup, k_lst, k_int, k_ins, p_app, i_isTt, i_isTl, i_isTr, l_len0, l_len1, l_len2, l_len3, l_len4, l_len5, l_len6, l_len7, l_len8, l_len9, l_len10, l_len11, l_len12, p_mulL, p_back, p_slLt, p_slLf, w_asgG, w_gName, w_gIx, w_gAttr, w_gTup, w_gNil, w_gCons, w_setAttr, p_neTP, p_eqTP, p_eqLI, p_neLI, i_recvI, Ok_ok, Ok_bad, OkS_ok, OkS_bad, OkS_then, onN_nx, onN_rt, onN_bk, onN_ct, onT_nx, onT_ct, onT_bk, onT_rt, onR_nx, onR_rt, Ok_ret, List.getElem?_cons_zero, List.getElem?_cons_succ, List.set_cons_zero, List.set_cons_succ, cut_same, Option.some.injEq, exists_eq_left', exists_eq_left, D.int.injEq, D.bl.injEq, D.tup.injEq, D.lst.injEq, D.ref.injEq, Cell.lst.injEq, Option.bind_some, Option.map_some, Bool.not_true, Bool.not_false, if_true, if_false, Bool.false_eq_true, reduceCtorEq, decide_true, decide_false, true_and, and_true, Prod.mk.injEq, and_self, String.reduceEq, Bool.or_false, Bool.false_or, Bool.or_true, Bool.true_or, Bool.and_true, Bool.true_and, Bool.and_false, Bool.false_and, reduceIte, beq_self_eq_true, wipeE]
    intro hc
    have hp' := h.sm2 p hp
    have e2 : Sm (p.1 / s) = true := by
      have : 0 ≤ p.1 / s := Int.ediv_nonneg hp'.1 (by omega)
      have : p.1 / s ≤ p.1 := Int.ediv_le_self _ hp'.1
      exact sm60 (by omega) (by omega)
    simp only [hs0, hs, mulS e2 hs, w_var, w_const, w_glob, w_op, w_nil, w_cons, w_tst, w_and, w_or, w_ife, w_chain, w_slc, w_lc, w_meth, w_meth2, w_ifs0, w_ifs1, w_over, w_range1, w_range2, w_enum, w_zip, w_expr, w_assign, w_par, w_aug, w_setIx, w_retE, w_retN, w_if, w_while, w_for, w_pass, w_brk, w_cont, w_bad, w_snil, w_scons, p_call, p_tup, p_mkT, p_mkLt, p_mkLf, p_lst, p_addI, p_addT, p_addS, p_addL, p_sub, p_mul, p_fdiv, p_mod, p_pow, p_neg, p_not, p_lt, p_le, p_gt, p_ge, p_isN, p_isnotN, p_isB, p_isnotB, p_eqI, p_neI, p_eqB, p_neB, p_len, p_lenL, p_lenC, p_ixC, p_ixT, p_ixL, p_ixR, p_max2, p_min2, p_abs, p_intI, p_intB, p_tupOf, p_listOf, p_sum, p_all, p_any, p_isI, p_isC, s_int, s_bl, s_tup, s_lst, s_str, s_non, s_ins, p_in, p_notin, t_bl, t_int, t_non, t_tup, t_lst, i_tup, i_lst, l_lst, ii_int, ii_bl, ii_tup, ii_lst, ii_str, ii_non, a_name, a_tup, a_nil, a_cons, sa_nil, sa_cons, i_at0, i_at1, i_at2, i_setR, i_ix30, i_ix31, i_ix32, i_lowI, i_lowB, i_lowN, i_lowT, p_eqT, p_neT, p_slT, p_slF, p_sl3, k_tup, k_lst, k_int, k_ins, p_app, i_isTt, i_isTl, i_isTr, l_len0, l_len1, l_len2, l_len3, l_len4, l_len5, l_len6, l_len7, l_len8, l_len9, l_len10, l_len11, l_len12, p_mulL, p_back, p_slLt, p_slLf, w_asgG, w_gName, w_gIx, w_gAttr, w_gTup, w_gNil, w_gCons, w_setAttr, p_neTP, p_eqTP, p_eqLI, p_neLI, i_recvI, Ok_ok, Ok_bad, OkS_ok, OkS_bad, OkS_then, onN_nx, onN_rt, onN_bk, onN_ct, onT_nx, onT_ct, onT_bk, onT_rt, onR_nx, onR_rt, Ok_ret, List.getElem?_cons_zero, List.getElem?_cons_succ, List.set_cons_zero, List.set_cons_succ, cut_same, Option.some.injEq, exists_eq_left', exists_eq_left, D.int.injEq, D.bl.injEq, D.tup.injEq, D.lst.injEq, D.ref.injEq, Cell.lst.injEq, Option.bind_some, Option.map_some, Bool.not_true, Bool.not_false, if_true, if_false, Bool.false_eq_true, reduceCtorEq, decide_true, decide_false, true_and, and_true, Prod.mk.injEq, and_self, String.reduceEq, Bool.or_false, Bool.false_or, Bool.or_true, Bool.true_or, Bool.and_true, Bool.true_and, Bool.and_false, Bool.false_and, reduceIte, beq_self_eq_true]
    rfl
  · have er : (rs.filter fun p => decide (s ≤ p.1)).map (fun p => pairT (p.1 / s * s, p.2)) = (roundR rs s).map pairT := by
      unfold roundR
      rw [List.map_map]
      rfl
    simp only [er, w_var, w_const, w_glob, w_op, w_nil, w_cons, w_tst, w_and, w_or, w_ife, w_chain, w_slc, w_lc, w_meth, w_meth2, w_ifs0, w_ifs1, w_over, w_range1, w_range2, w_enum, w_zip, w_expr, w_assign, w_par, w_aug, w_setIx, w_retE, w_retN, w_if, w_while, w_for, w_pass, w_brk, w_cont, w_bad, w_snil, w_scons, p_call, p_tup, p_mkT, p_mkLt, p_mkLf, p_lst, p_addI, p_addT, p_addS, p_addL, p_sub, p_mul, p_fdiv, p_mod, p_pow, p_neg, p_not, p_lt, p_le, p_gt, p_ge, p_isN, p_isnotN, p_isB, p_isnotB, p_eqI, p_neI, p_eqB, p_neB, p_len, p_lenL, p_lenC, p_ixC, p_ixT, p_ixL, p_ixR, p_max2, p_min2, p_abs, p_intI, p_intB, p_tupOf, p_listOf, p_sum, p_all, p_any, p_isI, p_isC, s_int, s_bl, s_tup, s_lst, s_str, s_non, s_ins, p_in, p_notin, t_bl, t_int, t_non, t_tup, t_lst, i_tup, i_lst, l_lst, ii_int, ii_bl, ii_tup, ii_lst, ii_str, ii_non, a_name, a_tup, a_nil, a_cons, sa_nil, sa_cons, i_at0, i_at1, i_at2, i_setR, i_ix30, i_ix31, i_ix32, i_lowI, i_lowB, i_lowN, i_lowT, p_eqT, p_neT, p_slT, p_slF, p_sl3, k_tup, k_lst, k_int, k_ins, p_app, i_isTt, i_isTl, i_isTr, l_len0, l_len1, l_len2, l_len3, l_len4, l_len5, l_len6, l_len7, l_len8, l_len9, l_len10, l_len11, l_len12, p_mulL, p_back, p_slLt, p_slLf, w_asgG, w_gName, w_gIx, w_gAttr, w_gTup, w_gNil, w_gCons, w_setAttr, p_neTP, p_eqTP, p_eqLI, p_neLI, i_recvI, Ok_ok, Ok_bad, OkS_ok, OkS_bad, OkS_then, onN_nx, onN_rt, onN_bk, onN_ct, onT_nx, onT_ct, onT_bk, onT_rt, onR_nx, onR_rt, Ok_ret, List.getElem?_cons_zero, List.getElem?_cons_succ, List.set_cons_zero, List.set_cons_succ, cut_same, Option.some.injEq, exists_eq_left', exists_eq_left, D.int.injEq, D.bl.injEq, D.tup.injEq, D.lst.injEq, D.ref.injEq, Cell.lst.injEq, Option.bind_some, Option.map_some, Bool.not_true, Bool.not_false, if_true, if_false, Bool.false_eq_true, reduceCtorEq, decide_true, decide_false, true_and, and_true, Prod.mk.injEq, and_self, String.reduceEq, Bool.or_false, Bool.false_or, Bool.or_true, Bool.true_or, Bool.and_true, Bool.true_and, Bool.and_false, Bool.false_and, reduceIte, beq_self_eq_true, List.length_map]
    rw [← e, Ok_of (new_stock k _ (h.round h0)), cut_same]
    exact ⟨lim40 (by have := (h.round h0).len; omega), rfl⟩
theorem s_is_stock (k : Nat) {rs : Rws} (m : Mem) (h : RowsOk rs) : callN P (k+5) 14 [.tup (rs.map pairT)] m = .ok (.bl true, m) := eq_of <| by
  rw [u14]
  simp only [b14, w_var, w_const, w_glob, w_op, w_nil, w_cons, w_tst, w_and, w_or, w_ife, w_chain, w_slc, w_lc, w_meth, w_meth2, w_ifs0, w_ifs1, w_over, w_range1, w_range2, w_enum, w_zip, w_expr, w_assign, w_par, w_aug, w_setIx, w_retE, w_retN, w_if, w_while, w_for, w_pass, w_brk, w_cont, w_bad, w_snil, w_scons, p_call, p_tup, p_mkT, p_mkLt, p_mkLf, p_lst, p_addI, p_addT, p_addS, p_addL, p_sub, p_mul, p_fdiv, p_mod, p_pow, p_neg, p_not, p_lt, p_le, p_gt, p_ge, p_isN, p_isnotN, p_isB, p_isnotB, p_eqI, p_neI, p_eqB, p_neB, p_len, p_lenL, p_lenC, p_ixC, p_ixT, p_ixL, p_ixR, p_max2, p_min2, p_abs, p_intI, p_intB, p_tupOf, p_listOf, p_sum, p_all, p_any, p_isI, p_isC, s_int, s_bl, s_tup, s_lst, s_str, s_non, s_ins, p_in, p_notin, t_bl, t_int, t_non, t_tup, t_lst, i_tup, i_lst, l_lst, ii_int, ii_bl, ii_tup, ii_lst, ii_str, ii_non, a_name, a_tup, a_nil, a_cons, sa_nil, sa_cons, i_at0, i_at1, i_at2, i_setR, i_ix30, i_ix31, i_ix32, i_lowI, i_lowB, i_lowN, i_lowT, p_eqT, p_neT, p_slT, p_slF, p_sl3, k_tup, k_lst, k_int, k_ins, p_app, i_isTt, i_isTl, i_isTr, l_len0, l_len1, l_len2, l_len3, l_len4, l_len5, l_len6, l_len7, l_len8, l_len9, l_len10, l_len11, l_len12, p_mulL, p_back, p_slLt, p_slLf, w_asgG, w_gName, w_gIx, w_gAttr, w_gTup, w_gNil, w_gCons, w_setAttr, p_neTP, p_eqTP, p_eqLI, p_neLI, i_recvI, Ok_ok, Ok_bad, OkS_ok, OkS_bad, OkS_then, onN_nx, onN_rt, onN_bk, onN_ct, onT_nx, onT_ct, onT_bk, onT_rt, onR_nx, onR_rt, Ok_ret, List.getElem?_cons_zero, List.getElem?_cons_succ, List.set_cons_zero, List.set_cons_succ, cut_same, Option.some.injEq, exists_eq_left', exists_eq_left, D.int.injEq, D.bl.injEq, D.tup.injEq, D.lst.injEq, D.ref.injEq, Cell.lst.injEq, Option.bind_some, Option.map_some, Bool.not_true, Bool.not_false, if_true, if_false, Bool.false_eq_true, reduceCtorEq, decide_true, decide_false, true_and, and_true, Prod.mk.injEq, and_self, String.reduceEq, Bool.or_false, Bool.false_or, Bool.or_true, Bool.true_or, Bool.and_true, Bool.true_and, Bool.and_false, Bool.false_and, reduceIte, beq_self_eq_true, s_are_rows k _ h]
end HT

namespace HT
open Rf L2
theorem rep_get {x : Int} {n i : Nat} (h : i < n) : (List.replicate n x)[i]? = some x := by
  rw [List.getElem?_replicate, if_pos h]
theorem s_room_of (k : Nat) {rs : Rws} {i : Nat} {x : Int} {m : Mem} (h : RowsOk rs) (hx : (expand rs)[i]? = some x) : callN P (k+4) 41 [St rs, .int i] m = .ok (.int x, m) := eq_of <| by
  rw [u41]
  have hl := h.len
  have hi : i < (expand rs).length := (List.getElem?_eq_some_iff.mp hx).1
  have hh := holds_len h.pos
  simp only [b41x2, b41x1t1, b41x1, b41t2, b41t1, b41, w_var, w_const, w_glob, w_op, w_nil, w_cons, w_tst, w_and, w_or, w_ife, w_chain, w_slc, w_lc, w_meth, w_meth2, w_ifs0, w_ifs1, w_over, w_range1, w_range2, w_enum, w_zip, w_expr, w_assign, w_par, w_aug, w_setIx, w_retE, w_retN, w_if, w_while, w_for, w_pass, w_brk, w_cont, w_bad, w_snil, w_scons, p_call, p_tup, p_mkT, p_mkLt, p_mkLf, p_lst, p_addI, p_addT, p_addS, p_addL, p_sub, p_mul, p_fdiv, p_mod, p_pow, p_neg, p_not, p_lt, p_le, p_gt, p_ge, p_isN, p_isnotN, p_isB, p_isnotB, p_eqI, p_neI, p_eqB, p_neB, p_len, p_lenL, p_lenC, p_ixC, p_ixT, p_ixL, p_ixR, p_max2, p_min2, p_abs, p_intI, p_intB, p_tupOf, p_listOf, p_sum, p_all, p_any, p_isI, p_isC, s_int, s_bl, s_tup, s_lst, s_str, s_non, s_ins, p_in, p_notin, t_bl, t_int, t_non, t_tup, t_lst, i_tup, i_lst, l_lst, ii_int, ii_bl, ii_tup, ii_lst, ii_str, ii_non, a_name, a_tup, a_nil, a_cons, sa_nil, sa_cons, i_at0, i_at1, i_at2, i_setR, i_ix30, i_ix31, i_ix32, i_lowI, i_lowB, i_lowN, i_lowT, p_eqT, p_neT, p_slT, p_slF, p_sl3, k_tup, k_lst, k_int, k_ins, p_app, i_isTt, i_isTl, i_isTr, l_len0, l_len1, l_len2, l_len3, l_len4, l_len5, l_len6, l_len7, l_len8, l_len9, l_len10, l_len11, l_len12, p_mulL, p_back, p_slLt, p_slLf, w_asgG, w_gName, w_gIx, w_gAttr, w_gTup, w_gNil, w_gCons, w_setAttr, p_neTP, p_eqTP, p_eqLI, p_neLI, i_recvI, Ok_ok, Ok_bad, OkS_ok, OkS_bad, OkS_then, onN_nx, onN_rt, onN_bk, onN_ct, onT_nx, onT_ct, onT_bk, onT_rt, onR_nx, onR_rt, Ok_ret, List.getElem?_cons_zero, List.getElem?_cons_succ, List.set_cons_zero, List.set_cons_succ, cut_same, Option.some.injEq, exists_eq_left', exists_eq_left, D.int.injEq, D.bl.injEq, D.tup.injEq, D.lst.injEq, D.ref.injEq, Cell.lst.injEq, Option.bind_some, Option.map_some, Bool.not_true, Bool.not_false, if_true, if_false, Bool.false_eq_true, reduceCtorEq, decide_true, decide_false, true_and, and_true, Prod.mk.injEq, and_self, String.reduceEq, Bool.or_false, Bool.false_or, Bool.or_true, Bool.true_or, Bool.and_true, Bool.true_and, Bool.and_false, Bool.false_and, reduceIte, beq_self_eq_true, s_require_index k (by omega : rs.length ≤ 1000) (Int.natCast_nonneg i) (by omega), at_own_rows]
  refine for_ok (fun j ρ m' => ∃ (a : Nat) (y z : Option D), ρ = [some (St rs), some (.int a), y, z] ∧ m' = m ∧ (expand (rs.drop j))[a]? = some x) ⟨i, none, none, rfl, rfl, hx⟩ (fun _ _ _ _ => rfl) ?_ ?_
  · rintro j d ρ m' hd ⟨a, y, z, rfl, rfl, ha⟩
    rw [List.getElem?_map, Option.map_eq_some_iff] at hd
    obtain ⟨p, hp, rfl⟩ := hd
    have hp1 := h.pos p (List.mem_of_getElem? hp)
    rw [drop_at hp, expand_cons] at ha
    refine ⟨_, rfl, ?_⟩
    simp only [w_var, w_const, w_glob, w_op, w_nil, w_cons, w_tst, w_and, w_or, w_ife, w_chain, w_slc, w_lc, w_meth, w_meth2, w_ifs0, w_ifs1, w_over, w_range1, w_range2, w_enum, w_zip, w_expr, w_assign, w_par, w_aug, w_setIx, w_retE, w_retN, w_if, w_while, w_for, w_pass, w_brk, w_cont, w_bad, w_snil, w_scons, p_call, p_tup, p_mkT, p_mkLt, p_mkLf, p_lst, p_addI, p_addT, p_addS, p_addL, p_sub, p_mul, p_fdiv, p_mod, p_pow, p_neg, p_not, p_lt, p_le, p_gt, p_ge, p_isN, p_isnotN, p_isB, p_isnotB, p_eqI, p_neI, p_eqB, p_neB, p_len, p_lenL, p_lenC, p_ixC, p_ixT, p_ixL, p_ixR, p_max2, p_min2, p_abs, p_intI, p_intB, p_tupOf, p_listOf, p_sum, p_all, p_any, p_isI, p_isC, s_int, s_bl, s_tup, s_lst, s_str, s_non, s_ins, p_in, p_notin, t_bl, t_int, t_non, t_tup, t_lst, i_tup, i_lst, l_lst, ii_int, ii_bl, ii_tup, ii_lst, ii_str, ii_non, a_name, a_tup, a_nil, a_cons, sa_nil, sa_cons, i_at0, i_at1, i_at2, i_setR, i_ix30, i_ix31, i_ix32, i_lowI, i_lowB, i_lowN, i_lowT, p_eqT, p_neT, p_slT, p_slF, p_sl3, k_tup, k_lst, k_int, k_ins, p_app, i_isTt, i_isTl, i_isTr, l_len0, l_len1, l_len2, l_len3, l_len4, l_len5, l_len6, l_len7, l_len8, l_len9, l_len10, l_len11, l_len12, p_mulL, p_back, p_slLt, p_slLf, w_asgG, w_gName, w_gIx, w_gAttr, w_gTup, w_gNil, w_gCons, w_setAttr, p_neTP, p_eqTP, p_eqLI, p_neLI, i_recvI, Ok_ok, Ok_bad, OkS_ok, OkS_bad, OkS_then, onN_nx, onN_rt, onN_bk, onN_ct, onT_nx, onT_ct, onT_bk, onT_rt, onR_nx, onR_rt, Ok_ret, List.getElem?_cons_zero, List.getElem?_cons_succ, List.set_cons_zero, List.set_cons_succ, cut_same, Option.some.injEq, exists_eq_left', exists_eq_left, D.int.injEq, D.bl.injEq, D.tup.injEq, D.lst.injEq, D.ref.injEq, Cell.lst.injEq, Option.bind_some, Option.map_some, Bool.not_true, Bool.not_false, if_true, if_false, Bool.false_eq_true, reduceCtorEq, decide_true, decide_false, true_and, and_true, Prod.mk.injEq, and_self, String.reduceEq, Bool.or_false, Bool.false_or, Bool.or_true, Bool.true_or, Bool.and_true, Bool.true_and, Bool.and_false, Bool.false_and, reduceIte, beq_self_eq_true]
    by_cases hlt : (a : Int) < p.2
    · have e : decide ((a : Int) < p.2) = true := decide_eq_true hlt
      simp only [e, w_var, w_const, w_glob, w_op, w_nil, w_cons, w_tst, w_and, w_or, w_ife, w_chain, w_slc, w_lc, w_meth, w_meth2, w_ifs0, w_ifs1, w_over, w_range1, w_range2, w_enum, w_zip, w_expr, w_assign, w_par, w_aug, w_setIx, w_retE, w_retN, w_if, w_while, w_for, w_pass, w_brk, w_cont, w_bad, w_snil, w_scons, p_call, p_tup, p_mkT, p_mkLt, p_mkLf, p_lst, p_addI, p_addT, p_addS, p_addL, p_sub, p_mul, p_fdiv, p_mod, p_pow, p_neg, p_not, p_lt, p_le, p_gt, p_ge, p_isN, p_isnotN, p_isB, p_isnotB, p_eqI, p_neI, p_eqB, p_neB, p_len, p_lenL, p_lenC, p_ixC, p_ixT, p_ixL, p_ixR, p_max2, p_min2, p_abs, p_intI, p_intB, p_tupOf, p_listOf, p_sum, p_all, p_any, p_isI, p_isC, s_int, s_bl, s_tup, s_lst, s_str, s_non, s_ins, p_in, p_notin, t_bl, t_int, t_non, t_tup, t_lst, i_tup, i_lst, l_lst, ii_int, ii_bl, ii_tup, ii_lst, ii_str, ii_non, a_name, a_tup, a_nil, a_cons, sa_nil, sa_cons, i_at0, i_at1, i_at2, i_setR, i_ix30, i_ix31, i_ix32, i_lowI, i_lowB, i_lowN, i_lowT, p_eqT, p_neT, p_slT, p_slF, p_sl3, k_tup, k_lst, k_int, k_ins, p_app, i_isTt, i_isTl, i_isTr, l_len0, l_len1, l_len2, l_len3, l_len4, l_len5, l_len6, l_len7, l_len8, l_len9, l_len10, l_len11, l_len12, p_mulL, p_back, p_slLt, p_slLf, w_asgG, w_gName, w_gIx, w_gAttr, w_gTup, w_gNil, w_gCons, w_setAttr, p_neTP, p_eqTP, p_eqLI, p_neLI, i_recvI, Ok_ok, Ok_bad, OkS_ok, OkS_bad, OkS_then, onN_nx, onN_rt, onN_bk, onN_ct, onT_nx, onT_ct, onT_bk, onT_rt, onR_nx, onR_rt, Ok_ret, List.getElem?_cons_zero, List.getElem?_cons_succ, List.set_cons_zero, List.set_cons_succ, cut_same, Option.some.injEq, exists_eq_left', exists_eq_left, D.int.injEq, D.bl.injEq, D.tup.injEq, D.lst.injEq, D.ref.injEq, Cell.lst.injEq, Option.bind_some, Option.map_some, Bool.not_true, Bool.not_false, if_true, if_false, Bool.false_eq_true, reduceCtorEq, decide_true, decide_false, true_and, and_true, Prod.mk.injEq, and_self, String.reduceEq, Bool.or_false, Bool.false_or, Bool.or_true, Bool.true_or, Bool.and_true, Bool.true_and, Bool.and_false, Bool.false_and, reduceIte, beq_self_eq_true]
      rw [List.getElem?_append_left (by rw [List.length_replicate]; omega), rep_get (by omega)] at ha
      cases ha
      rfl
    · have e : decide ((a : Int) < p.2) = false := decide_eq_false hlt
      simp only [e, w_var, w_const, w_glob, w_op, w_nil, w_cons, w_tst, w_and, w_or, w_ife, w_chain, w_slc, w_lc, w_meth, w_meth2, w_ifs0, w_ifs1, w_over, w_range1, w_range2, w_enum, w_zip, w_expr, w_assign, w_par, w_aug, w_setIx, w_retE, w_retN, w_if, w_while, w_for, w_pass, w_brk, w_cont, w_bad, w_snil, w_scons, p_call, p_tup, p_mkT, p_mkLt, p_mkLf, p_lst, p_addI, p_addT, p_addS, p_addL, p_sub, p_mul, p_fdiv, p_mod, p_pow, p_neg, p_not, p_lt, p_le, p_gt, p_ge, p_isN, p_isnotN, p_isB, p_isnotB, p_eqI, p_neI, p_eqB, p_neB, p_len, p_lenL, p_lenC, p_ixC, p_ixT, p_ixL, p_ixR, p_max2, p_min2, p_abs, p_intI, p_intB, p_tupOf, p_listOf, p_sum, p_all, p_any, p_isI, p_isC, s_int, s_bl, s_tup, s_lst, s_str, s_non, s_ins, p_in, p_notin, t_bl, t_int, t_non, t_tup, t_lst, i_tup, i_lst, l_lst, ii_int, ii_bl, ii_tup, ii_lst, ii_str, ii_non, a_name, a_tup, a_nil, a_cons, sa_nil, sa_cons, i_at0, i_at1, i_at2, i_setR, i_ix30, i_ix31, i_ix32, i_lowI, i_lowB, i_lowN, i_lowT, p_eqT, p_neT, p_slT, p_slF, p_sl3, k_tup, k_lst, k_int, k_ins, p_app, i_isTt, i_isTl, i_isTr, l_len0, l_len1, l_len2, l_len3, l_len4, l_len5, l_len6, l_len7, l_len8, l_len9, l_len10, l_len11, l_len12, p_mulL, p_back, p_slLt, p_slLf, w_asgG, w_gName, w_gIx, w_gAttr, w_gTup, w_gNil, w_gCons, w_setAttr, p_neTP, p_eqTP, p_eqLI, p_neLI, i_recvI, Ok_ok, Ok_bad, OkS_ok, OkS_bad, OkS_then, onN_nx, onN_rt, onN_bk, onN_ct, onT_nx, onT_ct, onT_bk, onT_rt, onR_nx, onR_rt, Ok_ret, List.getElem?_cons_zero, List.getElem?_cons_succ, List.set_cons_zero, List.set_cons_succ, cut_same, Option.some.injEq, exists_eq_left', exists_eq_left, D.int.injEq, D.bl.injEq, D.tup.injEq, D.lst.injEq, D.ref.injEq, Cell.lst.injEq, Option.bind_some, Option.map_some, Bool.not_true, Bool.not_false, if_true, if_false, Bool.false_eq_true, reduceCtorEq, decide_true, decide_false, true_and, and_true, Prod.mk.injEq, and_self, String.reduceEq, Bool.or_false, Bool.false_or, Bool.or_true, Bool.true_or, Bool.and_true, Bool.true_and, Bool.and_false, Bool.false_and, reduceIte, beq_self_eq_true]
      rw [List.getElem?_append_right (by rw [List.length_replicate]; omega), List.length_replicate] at ha
      have : (a : Int) - p.2 = ((a - p.2.toNat : Nat) : Int) := by omega
      refine ⟨a - p.2.toNat, some (.int p.1), some (.int p.2), ?_, rfl, ha⟩
      show [some (St rs), some (.int ((a : Int) - p.2)), some (.int p.1), some (.int p.2)] = _
      rw [this]
  · rintro ρ m' ⟨a, y, z, rfl, rfl, ha⟩
    rw [List.length_map, List.drop_length] at ha
    simp [expand] at ha
/-- where a place lies -/
structure At (xs : List Int) (i : Nat) (u : Int) (t : Int) : Prop where
  get : ∃ x, xs[i]? = some x ∧ u < x
  nn : 0 ≤ u
  sum : (xs.take i).sum + u = t
theorem At.lt {xs : List Int} {i : Nat} {u t : Int} (h : At xs i u t) (hx : ∀ x ∈ xs, 1 ≤ x) : 0 ≤ t ∧ t ≤ xs.sum - 1 := by
  obtain ⟨x, hx', hu⟩ := h.get
  have e : xs.take (i + 1) = xs.take i ++ [x] := by rw [List.take_add_one, hx']; rfl
  have h1 := take_sum hx (i + 1)
  rw [e, List.sum_append] at h1
  simp at h1
  have h2 : 0 ≤ (xs.take i).sum := sum_nn fun y hy => by have := hx y (List.mem_of_mem_take hy); omega
  have := h.nn
  have := h.sum
  omega
theorem s_hold_at (k : Nat) {rs : Rws} {i : Nat} {u t : Int} {m : Mem} (h : RowsOk rs) (ht : At (expand rs) i u t) : callN P (k+4) 20 [St rs, .int t] m = .ok (.tup [.int i, .int u], m) := eq_of <| by
  rw [u20]
  have hl := h.len
  obtain ⟨t0, t1⟩ := ht.lt h.rooms.1
  have er : rsum id rs = (expand rs).sum := by rw [rsum_expand id h.pos, List.map_id]
  simp only [b20x1, b20x3, b20x2t1, b20x2, b20t4, b20t3, b20t2, b20t1, b20, w_var, w_const, w_glob, w_op, w_nil, w_cons, w_tst, w_and, w_or, w_ife, w_chain, w_slc, w_lc, w_meth, w_meth2, w_ifs0, w_ifs1, w_over, w_range1, w_range2, w_enum, w_zip, w_expr, w_assign, w_par, w_aug, w_setIx, w_retE, w_retN, w_if, w_while, w_for, w_pass, w_brk, w_cont, w_bad, w_snil, w_scons, p_call, p_tup, p_mkT, p_mkLt, p_mkLf, p_lst, p_addI, p_addT, p_addS, p_addL, p_sub, p_mul, p_fdiv, p_mod, p_pow, p_neg, p_not, p_lt, p_le, p_gt, p_ge, p_isN, p_isnotN, p_isB, p_isnotB, p_eqI, p_neI, p_eqB, p_neB, p_len, p_lenL, p_lenC, p_ixC, p_ixT, p_ixL, p_ixR, p_max2, p_min2, p_abs, p_intI, p_intB, p_tupOf, p_listOf, p_sum, p_all, p_any, p_isI, p_isC, s_int, s_bl, s_tup, s_lst, s_str, s_non, s_ins, p_in, p_notin, t_bl, t_int, t_non, t_tup, t_lst, i_tup, i_lst, l_lst, ii_int, ii_bl, ii_tup, ii_lst, ii_str, ii_non, a_name, a_tup, a_nil, a_cons, sa_nil, sa_cons, i_at0, i_at1, i_at2, i_setR, i_ix30, i_ix31, i_ix32, i_lowI, i_lowB, i_lowN, i_lowT, p_eqT, p_neT, p_slT, p_slF, p_sl3, k_tup, k_lst, k_int, k_ins, p_app, i_isTt, i_isTl, i_isTr, l_len0, l_len1, l_len2, l_len3, l_len4, l_len5, l_len6, l_len7, l_len8, l_len9, l_len10, l_len11, l_len12, p_mulL, p_back, p_slLt, p_slLf, w_asgG, w_gName, w_gIx, w_gAttr, w_gTup, w_gNil, w_gCons, w_setAttr, p_neTP, p_eqTP, p_eqLI, p_neLI, i_recvI, Ok_ok, Ok_bad, OkS_ok, OkS_bad, OkS_then, onN_nx, onN_rt, onN_bk, onN_ct, onT_nx, onT_ct, onT_bk, onT_rt, onR_nx, onR_rt, Ok_ret, List.getElem?_cons_zero, List.getElem?_cons_succ, List.set_cons_zero, List.set_cons_succ, cut_same, Option.some.injEq, exists_eq_left', exists_eq_left, D.int.injEq, D.bl.injEq, D.tup.injEq, D.lst.injEq, D.ref.injEq, Cell.lst.injEq, Option.bind_some, Option.map_some, Bool.not_true, Bool.not_false, if_true, if_false, Bool.false_eq_true, reduceCtorEq, decide_true, decide_false, true_and, and_true, Prod.mk.injEq, and_self, String.reduceEq, Bool.or_false, Bool.false_or, Bool.or_true, Bool.true_or, Bool.and_true, Bool.true_and, Bool.and_false, Bool.false_and, reduceIte, beq_self_eq_true, s_require_stock, at_room (k+1) (by omega : rs.length ≤ 1000) h.sm, er, s_is_within, t0, t1, at_rows]
  refine for_ok (fun j ρ m' => ∃ (a : Nat) (b t' : Int) (y z : Option D), ρ = [some (St rs), some (.int t'), some (.int b), y, z] ∧ m' = m ∧ b + a = i ∧ At (expand (rs.drop j)) a u t') ⟨i, 0, t, none, none, rfl, rfl, by omega, ht⟩ (fun _ _ _ _ => rfl) ?_ ?_
  · rintro j d ρ m' hd ⟨a, b, t', y, z, rfl, rfl, hb, ha⟩
    rw [List.getElem?_map, Option.map_eq_some_iff] at hd
    obtain ⟨p, hp, rfl⟩ := hd
    have hpm := List.mem_of_getElem? hp
    have hp1 := h.pos p hpm
    have hp2 := (h.all p hpm).1
    have hsm := h.sm p hpm
    rw [drop_at hp, expand_cons] at ha
    refine ⟨_, rfl, ?_⟩
    obtain ⟨⟨x, hx, hu⟩, hu0, hs⟩ := ha
    have hq0 : 0 < p.1 := by omega
    simp only [w_var, w_const, w_glob, w_op, w_nil, w_cons, w_tst, w_and, w_or, w_ife, w_chain, w_slc, w_lc, w_meth, w_meth2, w_ifs0, w_ifs1, w_over, w_range1, w_range2, w_enum, w_zip, w_expr, w_assign, w_par, w_aug, w_setIx, w_retE, w_retN, w_if, w_while, w_for, w_pass, w_brk, w_cont, w_bad, w_snil, w_scons, p_call, p_tup, p_mkT, p_mkLt, p_mkLf, p_lst, p_addI, p_addT, p_addS, p_addL, p_sub, p_mul, p_fdiv, p_mod, p_pow, p_neg, p_not, p_lt, p_le, p_gt, p_ge, p_isN, p_isnotN, p_isB, p_isnotB, p_eqI, p_neI, p_eqB, p_neB, p_len, p_lenL, p_lenC, p_ixC, p_ixT, p_ixL, p_ixR, p_max2, p_min2, p_abs, p_intI, p_intB, p_tupOf, p_listOf, p_sum, p_all, p_any, p_isI, p_isC, s_int, s_bl, s_tup, s_lst, s_str, s_non, s_ins, p_in, p_notin, t_bl, t_int, t_non, t_tup, t_lst, i_tup, i_lst, l_lst, ii_int, ii_bl, ii_tup, ii_lst, ii_str, ii_non, a_name, a_tup, a_nil, a_cons, sa_nil, sa_cons, i_at0, i_at1, i_at2, i_setR, i_ix30, i_ix31, i_ix32, i_lowI, i_lowB, i_lowN, i_lowT, p_eqT, p_neT, p_slT, p_slF, p_sl3, k_tup, k_lst, k_int, k_ins, p_app, i_isTt, i_isTl, i_isTr, l_len0, l_len1, l_len2, l_len3, l_len4, l_len5, l_len6, l_len7, l_len8, l_len9, l_len10, l_len11, l_len12, p_mulL, p_back, p_slLt, p_slLf, w_asgG, w_gName, w_gIx, w_gAttr, w_gTup, w_gNil, w_gCons, w_setAttr, p_neTP, p_eqTP, p_eqLI, p_neLI, i_recvI, Ok_ok, Ok_bad, OkS_ok, OkS_bad, OkS_then, onN_nx, onN_rt, onN_bk, onN_ct, onT_nx, onT_ct, onT_bk, onT_rt, onR_nx, onR_rt, Ok_ret, List.getElem?_cons_zero, List.getElem?_cons_succ, List.set_cons_zero, List.set_cons_succ, cut_same, Option.some.injEq, exists_eq_left', exists_eq_left, D.int.injEq, D.bl.injEq, D.tup.injEq, D.lst.injEq, D.ref.injEq, Cell.lst.injEq, Option.bind_some, Option.map_some, Bool.not_true, Bool.not_false, if_true, if_false, Bool.false_eq_true, reduceCtorEq, decide_true, decide_false, true_and, and_true, Prod.mk.injEq, and_self, String.reduceEq, Bool.or_false, Bool.false_or, Bool.or_true, Bool.true_or, Bool.and_true, Bool.true_and, Bool.and_false, Bool.false_and, reduceIte, beq_self_eq_true, mulS hsm.1 hsm.2, hsm.1, hq0]
    by_cases hlt : (a : Int) < p.2
    · rw [List.getElem?_append_left (by rw [List.length_replicate]; omega), rep_get (by omega)] at hx
      cases hx
      have e1 : (List.replicate p.2.toNat p.1 ++ expand (rs.drop (j + 1))).take a = List.replicate a p.1 := by
        rw [List.take_append_of_le_length (by rw [List.length_replicate]; omega), List.take_replicate]
        congr 1
        omega
      rw [e1, sum_rep] at hs
      have h3 : p.1 * (a + 1) ≤ p.1 * p.2 := Int.mul_le_mul_of_nonneg_left (by omega) (by omega)
      rw [Int.mul_add, Int.mul_one] at h3
      have e : decide (t' < p.1 * p.2) = true := decide_eq_true (by omega)
      have d1 : t' / p.1 = a := by
        rw [← hs, Int.add_comm, Int.add_mul_ediv_left _ _ (by omega), Int.ediv_eq_zero_of_lt hu0 hu]
        omega
      have d2 : t' % p.1 = u := by
        rw [← hs, Int.add_comm, Int.add_mul_emod_self_left, Int.emod_eq_of_lt hu0 hu]
      simp only [e, d1, d2, hb, w_var, w_const, w_glob, w_op, w_nil, w_cons, w_tst, w_and, w_or, w_ife, w_chain, w_slc, w_lc, w_meth, w_meth2, w_ifs0, w_ifs1, w_over, w_range1, w_range2, w_enum, w_zip, w_expr, w_assign, w_par, w_aug, w_setIx, w_retE, w_retN, w_if, w_while, w_for, w_pass, w_brk, w_cont, w_bad, w_snil, w_scons, p_call, p_tup, p_mkT, p_mkLt, p_mkLf, p_lst, p_addI, p_addT, p_addS, p_addL, p_sub, p_mul, p_fdiv, p_mod, p_pow, p_neg, p_not, p_lt, p_le, p_gt, p_ge, p_isN, p_isnotN, p_isB, p_isnotB, p_eqI, p_neI, p_eqB, p_neB, p_len, p_lenL, p_lenC, p_ixC, p_ixT, p_ixL, p_ixR, p_max2, p_min2, p_abs, p_intI, p_intB, p_tupOf, p_listOf, p_sum, p_all, p_any, p_isI, p_isC, s_int, s_bl, s_tup, s_lst, s_str, s_non, s_ins, p_in, p_notin, t_bl, t_int, t_non, t_tup, t_lst, i_tup, i_lst, l_lst, ii_int, ii_bl, ii_tup, ii_lst, ii_str, ii_non, a_name, a_tup, a_nil, a_cons, sa_nil, sa_cons, i_at0, i_at1, i_at2, i_setR, i_ix30, i_ix31, i_ix32, i_lowI, i_lowB, i_lowN, i_lowT, p_eqT, p_neT, p_slT, p_slF, p_sl3, k_tup, k_lst, k_int, k_ins, p_app, i_isTt, i_isTl, i_isTr, l_len0, l_len1, l_len2, l_len3, l_len4, l_len5, l_len6, l_len7, l_len8, l_len9, l_len10, l_len11, l_len12, p_mulL, p_back, p_slLt, p_slLf, w_asgG, w_gName, w_gIx, w_gAttr, w_gTup, w_gNil, w_gCons, w_setAttr, p_neTP, p_eqTP, p_eqLI, p_neLI, i_recvI, Ok_ok, Ok_bad, OkS_ok, OkS_bad, OkS_then, onN_nx, onN_rt, onN_bk, onN_ct, onT_nx, onT_ct, onT_bk, onT_rt, onR_nx, onR_rt, Ok_ret, List.getElem?_cons_zero, List.getElem?_cons_succ, List.set_cons_zero, List.set_cons_succ, cut_same, Option.some.injEq, exists_eq_left', exists_eq_left, D.int.injEq, D.bl.injEq, D.tup.injEq, D.lst.injEq, D.ref.injEq, Cell.lst.injEq, Option.bind_some, Option.map_some, Bool.not_true, Bool.not_false, if_true, if_false, Bool.false_eq_true, reduceCtorEq, decide_true, decide_false, true_and, and_true, Prod.mk.injEq, and_self, String.reduceEq, Bool.or_false, Bool.false_or, Bool.or_true, Bool.true_or, Bool.and_true, Bool.true_and, Bool.and_false, Bool.false_and, reduceIte, beq_self_eq_true]
    · rw [List.getElem?_append_right (by rw [List.length_replicate]; omega), List.length_replicate] at hx
      have e1 : ((List.replicate p.2.toNat p.1 ++ expand (rs.drop (j + 1))).take a).sum = p.1 * p.2 + ((expand (rs.drop (j + 1))).take (a - p.2.toNat)).sum := by
        rw [List.take_append, List.length_replicate, List.sum_append, List.take_of_length_le (by rw [List.length_replicate]; omega), sum_rep, Int.toNat_of_nonneg (by omega)]
      rw [e1] at hs
      have h2 : 0 ≤ ((expand (rs.drop (j + 1))).take (a - p.2.toNat)).sum := sum_nn fun y hy => by
        obtain ⟨q, hq, rfl⟩ := mem_expand (List.mem_of_mem_take hy)
        have := (h.all q (List.mem_of_mem_drop hq)).1.1
        omega
      have e : decide (t' < p.1 * p.2) = false := decide_eq_false (by omega)
      simp only [e, w_var, w_const, w_glob, w_op, w_nil, w_cons, w_tst, w_and, w_or, w_ife, w_chain, w_slc, w_lc, w_meth, w_meth2, w_ifs0, w_ifs1, w_over, w_range1, w_range2, w_enum, w_zip, w_expr, w_assign, w_par, w_aug, w_setIx, w_retE, w_retN, w_if, w_while, w_for, w_pass, w_brk, w_cont, w_bad, w_snil, w_scons, p_call, p_tup, p_mkT, p_mkLt, p_mkLf, p_lst, p_addI, p_addT, p_addS, p_addL, p_sub, p_mul, p_fdiv, p_mod, p_pow, p_neg, p_not, p_lt, p_le, p_gt, p_ge, p_isN, p_isnotN, p_isB, p_isnotB, p_eqI, p_neI, p_eqB, p_neB, p_len, p_lenL, p_lenC, p_ixC, p_ixT, p_ixL, p_ixR, p_max2, p_min2, p_abs, p_intI, p_intB, p_tupOf, p_listOf, p_sum, p_all, p_any, p_isI, p_isC, s_int, s_bl, s_tup, s_lst, s_str, s_non, s_ins, p_in, p_notin, t_bl, t_int, t_non, t_tup, t_lst, i_tup, i_lst, l_lst, ii_int, ii_bl, ii_tup, ii_lst, ii_str, ii_non, a_name, a_tup, a_nil, a_cons, sa_nil, sa_cons, i_at0, i_at1, i_at2, i_setR, i_ix30, i_ix31, i_ix32, i_lowI, i_lowB, i_lowN, i_lowT, p_eqT, p_neT, p_slT, p_slF, p_sl3, k_tup, k_lst, k_int, k_ins, p_app, i_isTt, i_isTl, i_isTr, l_len0, l_len1, l_len2, l_len3, l_len4, l_len5, l_len6, l_len7, l_len8, l_len9, l_len10, l_len11, l_len12, p_mulL, p_back, p_slLt, p_slLf, w_asgG, w_gName, w_gIx, w_gAttr, w_gTup, w_gNil, w_gCons, w_setAttr, p_neTP, p_eqTP, p_eqLI, p_neLI, i_recvI, Ok_ok, Ok_bad, OkS_ok, OkS_bad, OkS_then, onN_nx, onN_rt, onN_bk, onN_ct, onT_nx, onT_ct, onT_bk, onT_rt, onR_nx, onR_rt, Ok_ret, List.getElem?_cons_zero, List.getElem?_cons_succ, List.set_cons_zero, List.set_cons_succ, cut_same, Option.some.injEq, exists_eq_left', exists_eq_left, D.int.injEq, D.bl.injEq, D.tup.injEq, D.lst.injEq, D.ref.injEq, Cell.lst.injEq, Option.bind_some, Option.map_some, Bool.not_true, Bool.not_false, if_true, if_false, Bool.false_eq_true, reduceCtorEq, decide_true, decide_false, true_and, and_true, Prod.mk.injEq, and_self, String.reduceEq, Bool.or_false, Bool.false_or, Bool.or_true, Bool.true_or, Bool.and_true, Bool.true_and, Bool.and_false, Bool.false_and, reduceIte, beq_self_eq_true]
      exact ⟨a - p.2.toNat, b + p.2, t' - p.1 * p.2, some (.int p.1), some (.int p.2), rfl, by omega, ⟨⟨x, hx, hu⟩, hu0, by rw [← hs]; omega⟩⟩
  · rintro ρ m' ⟨a, b, t', y, z, rfl, rfl, hb, ⟨x, hx, _⟩, _, _⟩
    rw [List.length_map, List.drop_length] at hx
    simp [expand] at hx
end HT

namespace HT
open Rf L2
theorem sizes_one {x : Int} (h : 1 ≤ x) (h' : x ≤ 10 ^ 60) : Sizes [x] := ⟨Nat.le_refl _, by simp, fun n hn => by rw [List.mem_singleton] at hn; omega, fun p hp => by simp at hp⟩
theorem sizes_cons {x q : Int} {zs : List Int} (h : Sizes (x :: zs)) (hq : 2 ≤ q) (hx : x * q ≤ 10 ^ 60) (hl : zs.length ≤ 30) : Sizes (x * q :: x :: zs) := by
  have h1 := (h.all x List.mem_cons_self).1
  have h2 : x * 2 ≤ x * q := Int.mul_le_mul_of_nonneg_left hq (by omega)
  refine ⟨by simp, by simp; omega, fun n hn => ?_, fun p hp => ?_⟩
  · rcases List.mem_cons.mp hn with rfl | hn
    · omega
    · exact h.all n hn
  · simp only [List.drop_succ_cons, List.drop_zero, List.zip_cons_cons] at hp
    rcases List.mem_cons.mp hp with rfl | hp
    · exact ⟨by dsimp only; omega, by simp⟩
    · exact h.div p (by simpa using hp)
theorem s__law_cl_scale (k : Nat) {a b c : Int} {m : Mem} {n : Nat} (hm : m[n]? = some (dc a b c)) : Ok (callN P (k+3) 24 [.ref n, .int 4] m) fun r => ∃ ns a b c, r = (.tup (ns.map .int), m.set n (dc a b c)) ∧ Sizes ns ∧ ∀ z ∈ ns, z ≤ 375 := by
  rw [u24]
  simp only [b24x1, b24t2, b24t1, b24, w_var, w_const, w_glob, w_op, w_nil, w_cons, w_tst, w_and, w_or, w_ife, w_chain, w_slc, w_lc, w_meth, w_meth2, w_ifs0, w_ifs1, w_over, w_range1, w_range2, w_enum, w_zip, w_expr, w_assign, w_par, w_aug, w_setIx, w_retE, w_retN, w_if, w_while, w_for, w_pass, w_brk, w_cont, w_bad, w_snil, w_scons, p_call, p_tup, p_mkT, p_mkLt, p_mkLf, p_lst, p_addI, p_addT, p_addS, p_addL, p_sub, p_mul, p_fdiv, p_mod, p_pow, p_neg, p_not, p_lt, p_le, p_gt, p_ge, p_isN, p_isnotN, p_isB, p_isnotB, p_eqI, p_neI, p_eqB, p_neB, p_len, p_lenL, p_lenC, p_ixC, p_ixT, p_ixL, p_ixR, p_max2, p_min2, p_abs, p_intI, p_intB, p_tupOf, p_listOf, p_sum, p_all, p_any, p_isI, p_isC, s_int, s_bl, s_tup, s_lst, s_str, s_non, s_ins, p_in, p_notin, t_bl, t_int, t_non, t_tup, t_lst, i_tup, i_lst, l_lst, ii_int, ii_bl, ii_tup, ii_lst, ii_str, ii_non, a_name, a_tup, a_nil, a_cons, sa_nil, sa_cons, i_at0, i_at1, i_at2, i_setR, i_ix30, i_ix31, i_ix32, i_lowI, i_lowB, i_lowN, i_lowT, p_eqT, p_neT, p_slT, p_slF, p_sl3, k_tup, k_lst, k_int, k_ins, p_app, i_isTt, i_isTl, i_isTr, l_len0, l_len1, l_len2, l_len3, l_len4, l_len5, l_len6, l_len7, l_len8, l_len9, l_len10, l_len11, l_len12, p_mulL, p_back, p_slLt, p_slLf, w_asgG, w_gName, w_gIx, w_gAttr, w_gTup, w_gNil, w_gCons, w_setAttr, p_neTP, p_eqTP, p_eqLI, p_neLI, i_recvI, Ok_ok, Ok_bad, OkS_ok, OkS_bad, OkS_then, onN_nx, onN_rt, onN_bk, onN_ct, onT_nx, onT_ct, onT_bk, onT_rt, onR_nx, onR_rt, Ok_ret, List.getElem?_cons_zero, List.getElem?_cons_succ, List.set_cons_zero, List.set_cons_succ, cut_same, Option.some.injEq, exists_eq_left', exists_eq_left, D.int.injEq, D.bl.injEq, D.tup.injEq, D.lst.injEq, D.ref.injEq, Cell.lst.injEq, Option.bind_some, Option.map_some, Bool.not_true, Bool.not_false, if_true, if_false, Bool.false_eq_true, reduceCtorEq, decide_true, decide_false, true_and, and_true, Prod.mk.injEq, and_self, String.reduceEq, Bool.or_false, Bool.false_or, Bool.or_true, Bool.true_or, Bool.and_true, Bool.true_and, Bool.and_false, Bool.false_and, reduceIte, beq_self_eq_true]
  refine (s_pick _ hm (ns := [1, 1, 2, 3]) (by simp) (by simp)).imp fun r ⟨x, a1, b1, c1, e, hx⟩ => ?_
  subst e
  simp only [w_var, w_const, w_glob, w_op, w_nil, w_cons, w_tst, w_and, w_or, w_ife, w_chain, w_slc, w_lc, w_meth, w_meth2, w_ifs0, w_ifs1, w_over, w_range1, w_range2, w_enum, w_zip, w_expr, w_assign, w_par, w_aug, w_setIx, w_retE, w_retN, w_if, w_while, w_for, w_pass, w_brk, w_cont, w_bad, w_snil, w_scons, p_call, p_tup, p_mkT, p_mkLt, p_mkLf, p_lst, p_addI, p_addT, p_addS, p_addL, p_sub, p_mul, p_fdiv, p_mod, p_pow, p_neg, p_not, p_lt, p_le, p_gt, p_ge, p_isN, p_isnotN, p_isB, p_isnotB, p_eqI, p_neI, p_eqB, p_neB, p_len, p_lenL, p_lenC, p_ixC, p_ixT, p_ixL, p_ixR, p_max2, p_min2, p_abs, p_intI, p_intB, p_tupOf, p_listOf, p_sum, p_all, p_any, p_isI, p_isC, s_int, s_bl, s_tup, s_lst, s_str, s_non, s_ins, p_in, p_notin, t_bl, t_int, t_non, t_tup, t_lst, i_tup, i_lst, l_lst, ii_int, ii_bl, ii_tup, ii_lst, ii_str, ii_non, a_name, a_tup, a_nil, a_cons, sa_nil, sa_cons, i_at0, i_at1, i_at2, i_setR, i_ix30, i_ix31, i_ix32, i_lowI, i_lowB, i_lowN, i_lowT, p_eqT, p_neT, p_slT, p_slF, p_sl3, k_tup, k_lst, k_int, k_ins, p_app, i_isTt, i_isTl, i_isTr, l_len0, l_len1, l_len2, l_len3, l_len4, l_len5, l_len6, l_len7, l_len8, l_len9, l_len10, l_len11, l_len12, p_mulL, p_back, p_slLt, p_slLf, w_asgG, w_gName, w_gIx, w_gAttr, w_gTup, w_gNil, w_gCons, w_setAttr, p_neTP, p_eqTP, p_eqLI, p_neLI, i_recvI, Ok_ok, Ok_bad, OkS_ok, OkS_bad, OkS_then, onN_nx, onN_rt, onN_bk, onN_ct, onT_nx, onT_ct, onT_bk, onT_rt, onR_nx, onR_rt, Ok_ret, List.getElem?_cons_zero, List.getElem?_cons_succ, List.set_cons_zero, List.set_cons_succ, cut_same, Option.some.injEq, exists_eq_left', exists_eq_left, D.int.injEq, D.bl.injEq, D.tup.injEq, D.lst.injEq, D.ref.injEq, Cell.lst.injEq, Option.bind_some, Option.map_some, Bool.not_true, Bool.not_false, if_true, if_false, Bool.false_eq_true, reduceCtorEq, decide_true, decide_false, true_and, and_true, Prod.mk.injEq, and_self, String.reduceEq, Bool.or_false, Bool.false_or, Bool.or_true, Bool.true_or, Bool.and_true, Bool.true_and, Bool.and_false, Bool.false_and, reduceIte, beq_self_eq_true, List.length_set]
  have hm1 := at_set hm (dc a1 b1 c1)
  refine (s_roll _ (at_lt hm1) (by decide) (small (by decide +kernel))).imp fun r ⟨t, a2, b2, c2, e, ht0, ht1⟩ => ?_
  subst e
  simp only [w_var, w_const, w_glob, w_op, w_nil, w_cons, w_tst, w_and, w_or, w_ife, w_chain, w_slc, w_lc, w_meth, w_meth2, w_ifs0, w_ifs1, w_over, w_range1, w_range2, w_enum, w_zip, w_expr, w_assign, w_par, w_aug, w_setIx, w_retE, w_retN, w_if, w_while, w_for, w_pass, w_brk, w_cont, w_bad, w_snil, w_scons, p_call, p_tup, p_mkT, p_mkLt, p_mkLf, p_lst, p_addI, p_addT, p_addS, p_addL, p_sub, p_mul, p_fdiv, p_mod, p_pow, p_neg, p_not, p_lt, p_le, p_gt, p_ge, p_isN, p_isnotN, p_isB, p_isnotB, p_eqI, p_neI, p_eqB, p_neB, p_len, p_lenL, p_lenC, p_ixC, p_ixT, p_ixL, p_ixR, p_max2, p_min2, p_abs, p_intI, p_intB, p_tupOf, p_listOf, p_sum, p_all, p_any, p_isI, p_isC, s_int, s_bl, s_tup, s_lst, s_str, s_non, s_ins, p_in, p_notin, t_bl, t_int, t_non, t_tup, t_lst, i_tup, i_lst, l_lst, ii_int, ii_bl, ii_tup, ii_lst, ii_str, ii_non, a_name, a_tup, a_nil, a_cons, sa_nil, sa_cons, i_at0, i_at1, i_at2, i_setR, i_ix30, i_ix31, i_ix32, i_lowI, i_lowB, i_lowN, i_lowT, p_eqT, p_neT, p_slT, p_slF, p_sl3, k_tup, k_lst, k_int, k_ins, p_app, i_isTt, i_isTl, i_isTr, l_len0, l_len1, l_len2, l_len3, l_len4, l_len5, l_len6, l_len7, l_len8, l_len9, l_len10, l_len11, l_len12, p_mulL, p_back, p_slLt, p_slLf, w_asgG, w_gName, w_gIx, w_gAttr, w_gTup, w_gNil, w_gCons, w_setAttr, p_neTP, p_eqTP, p_eqLI, p_neLI, i_recvI, Ok_ok, Ok_bad, OkS_ok, OkS_bad, OkS_then, onN_nx, onN_rt, onN_bk, onN_ct, onT_nx, onT_ct, onT_bk, onT_rt, onR_nx, onR_rt, Ok_ret, List.getElem?_cons_zero, List.getElem?_cons_succ, List.set_cons_zero, List.set_cons_succ, cut_same, Option.some.injEq, exists_eq_left', exists_eq_left, D.int.injEq, D.bl.injEq, D.tup.injEq, D.lst.injEq, D.ref.injEq, Cell.lst.injEq, Option.bind_some, Option.map_some, Bool.not_true, Bool.not_false, if_true, if_false, Bool.false_eq_true, reduceCtorEq, decide_true, decide_false, true_and, and_true, Prod.mk.injEq, and_self, String.reduceEq, Bool.or_false, Bool.false_or, Bool.or_true, Bool.true_or, Bool.and_true, Bool.true_and, Bool.and_false, Bool.false_and, reduceIte, beq_self_eq_true, set_lt hm1, List.set_set]
  refine ⟨by simp [small62]; omega, for_ok (fun i ρ m' => ∃ y zs a b c w, ρ = [some (.ref n), some (.int 4), some (.ref m.length), w] ∧ m' = m.set n (dc a b c) ++ [.lst (((y :: zs).reverse).map .int)] ∧ zs.length = i ∧ Sizes (y :: zs) ∧ (∀ z ∈ y :: zs, z ≤ y) ∧ y ≤ 3 * 5 ^ i) ⟨x, [], a2, b2, c2, none, rfl, rfl, rfl, ?_, by simp, ?_⟩ (fun _ _ _ _ => rfl) ?_ ?_⟩
  · simp only [List.mem_cons, List.not_mem_nil, or_false] at hx
    exact sizes_one (by omega) (by omega)
  · simp only [List.mem_cons, List.not_mem_nil, or_false] at hx
    omega
  · rintro i d ρ m' hd ⟨y, zs, a3, b3, c3, w, rfl, rfl, hl, hz, hb, hy⟩
    obtain ⟨hi, rfl⟩ := range_get hd
    have hm3 := at_set hm (dc a3 b3 c3)
    refine ⟨_, rfl, ?_⟩
    simp only [w_var, w_const, w_glob, w_op, w_nil, w_cons, w_tst, w_and, w_or, w_ife, w_chain, w_slc, w_lc, w_meth, w_meth2, w_ifs0, w_ifs1, w_over, w_range1, w_range2, w_enum, w_zip, w_expr, w_assign, w_par, w_aug, w_setIx, w_retE, w_retN, w_if, w_while, w_for, w_pass, w_brk, w_cont, w_bad, w_snil, w_scons, p_call, p_tup, p_mkT, p_mkLt, p_mkLf, p_lst, p_addI, p_addT, p_addS, p_addL, p_sub, p_mul, p_fdiv, p_mod, p_pow, p_neg, p_not, p_lt, p_le, p_gt, p_ge, p_isN, p_isnotN, p_isB, p_isnotB, p_eqI, p_neI, p_eqB, p_neB, p_len, p_lenL, p_lenC, p_ixC, p_ixT, p_ixL, p_ixR, p_max2, p_min2, p_abs, p_intI, p_intB, p_tupOf, p_listOf, p_sum, p_all, p_any, p_isI, p_isC, s_int, s_bl, s_tup, s_lst, s_str, s_non, s_ins, p_in, p_notin, t_bl, t_int, t_non, t_tup, t_lst, i_tup, i_lst, l_lst, ii_int, ii_bl, ii_tup, ii_lst, ii_str, ii_non, a_name, a_tup, a_nil, a_cons, sa_nil, sa_cons, i_at0, i_at1, i_at2, i_setR, i_ix30, i_ix31, i_ix32, i_lowI, i_lowB, i_lowN, i_lowT, p_eqT, p_neT, p_slT, p_slF, p_sl3, k_tup, k_lst, k_int, k_ins, p_app, i_isTt, i_isTl, i_isTr, l_len0, l_len1, l_len2, l_len3, l_len4, l_len5, l_len6, l_len7, l_len8, l_len9, l_len10, l_len11, l_len12, p_mulL, p_back, p_slLt, p_slLf, w_asgG, w_gName, w_gIx, w_gAttr, w_gTup, w_gNil, w_gCons, w_setAttr, p_neTP, p_eqTP, p_eqLI, p_neLI, i_recvI, Ok_ok, Ok_bad, OkS_ok, OkS_bad, OkS_then, onN_nx, onN_rt, onN_bk, onN_ct, onT_nx, onT_ct, onT_bk, onT_rt, onR_nx, onR_rt, Ok_ret, List.getElem?_cons_zero, List.getElem?_cons_succ, List.set_cons_zero, List.set_cons_succ, cut_same, Option.some.injEq, exists_eq_left', exists_eq_left, D.int.injEq, D.bl.injEq, D.tup.injEq, D.lst.injEq, D.ref.injEq, Cell.lst.injEq, Option.bind_some, Option.map_some, Bool.not_true, Bool.not_false, if_true, if_false, Bool.false_eq_true, reduceCtorEq, decide_true, decide_false, true_and, and_true, Prod.mk.injEq, and_self, String.reduceEq, Bool.or_false, Bool.false_or, Bool.or_true, Bool.true_or, Bool.and_true, Bool.true_and, Bool.and_false, Bool.false_and, reduceIte, beq_self_eq_true, recv_ref at_appS, at_appS, List.reverse_cons, List.map_append, List.map_cons, List.map_nil, at_last]
    refine (s_pick _ (at_lt hm3) (ns := [2, 2, 3, 5]) (by simp) (by simp)).imp fun r ⟨q, a4, b4, c4, e, hq⟩ => ?_
    subst e
    have hi3 : i < 3 := by omega
    have hq' : 2 ≤ q ∧ q ≤ 5 := by
      simp only [List.mem_cons, List.not_mem_nil, or_false] at hq
      omega
    have hy1 := (hz.all y List.mem_cons_self).1
    have h5 : (3 : Int) * 5 ^ i ≤ 75 := by
      have : i = 0 ∨ i = 1 ∨ i = 2 := by omega
      rcases this with rfl | rfl | rfl <;> decide
    have hyq : y * q ≤ y * 5 := Int.mul_le_mul_of_nonneg_left hq'.2 (by omega)
    have hyq1 : y * 2 ≤ y * q := Int.mul_le_mul_of_nonneg_left hq'.1 (by omega)
    have hmul : mulB y q = true := mul64 (.inl (by omega))
    simp only [w_var, w_const, w_glob, w_op, w_nil, w_cons, w_tst, w_and, w_or, w_ife, w_chain, w_slc, w_lc, w_meth, w_meth2, w_ifs0, w_ifs1, w_over, w_range1, w_range2, w_enum, w_zip, w_expr, w_assign, w_par, w_aug, w_setIx, w_retE, w_retN, w_if, w_while, w_for, w_pass, w_brk, w_cont, w_bad, w_snil, w_scons, p_call, p_tup, p_mkT, p_mkLt, p_mkLf, p_lst, p_addI, p_addT, p_addS, p_addL, p_sub, p_mul, p_fdiv, p_mod, p_pow, p_neg, p_not, p_lt, p_le, p_gt, p_ge, p_isN, p_isnotN, p_isB, p_isnotB, p_eqI, p_neI, p_eqB, p_neB, p_len, p_lenL, p_lenC, p_ixC, p_ixT, p_ixL, p_ixR, p_max2, p_min2, p_abs, p_intI, p_intB, p_tupOf, p_listOf, p_sum, p_all, p_any, p_isI, p_isC, s_int, s_bl, s_tup, s_lst, s_str, s_non, s_ins, p_in, p_notin, t_bl, t_int, t_non, t_tup, t_lst, i_tup, i_lst, l_lst, ii_int, ii_bl, ii_tup, ii_lst, ii_str, ii_non, a_name, a_tup, a_nil, a_cons, sa_nil, sa_cons, i_at0, i_at1, i_at2, i_setR, i_ix30, i_ix31, i_ix32, i_lowI, i_lowB, i_lowN, i_lowT, p_eqT, p_neT, p_slT, p_slF, p_sl3, k_tup, k_lst, k_int, k_ins, p_app, i_isTt, i_isTl, i_isTr, l_len0, l_len1, l_len2, l_len3, l_len4, l_len5, l_len6, l_len7, l_len8, l_len9, l_len10, l_len11, l_len12, p_mulL, p_back, p_slLt, p_slLf, w_asgG, w_gName, w_gIx, w_gAttr, w_gTup, w_gNil, w_gCons, w_setAttr, p_neTP, p_eqTP, p_eqLI, p_neLI, i_recvI, Ok_ok, Ok_bad, OkS_ok, OkS_bad, OkS_then, onN_nx, onN_rt, onN_bk, onN_ct, onT_nx, onT_ct, onT_bk, onT_rt, onR_nx, onR_rt, Ok_ret, List.getElem?_cons_zero, List.getElem?_cons_succ, List.set_cons_zero, List.set_cons_succ, cut_same, Option.some.injEq, exists_eq_left', exists_eq_left, D.int.injEq, D.bl.injEq, D.tup.injEq, D.lst.injEq, D.ref.injEq, Cell.lst.injEq, Option.bind_some, Option.map_some, Bool.not_true, Bool.not_false, if_true, if_false, Bool.false_eq_true, reduceCtorEq, decide_true, decide_false, true_and, and_true, Prod.mk.injEq, and_self, String.reduceEq, Bool.or_false, Bool.false_or, Bool.or_true, Bool.true_or, Bool.and_true, Bool.true_and, Bool.and_false, Bool.false_and, reduceIte, beq_self_eq_true, hmul, set_lt hm3, List.set_set, at_appS, set_appS]
    refine ⟨lim1000 (by simp; omega), y * q, y :: zs, a4, b4, c4, _, rfl, by simp, by simp; omega, sizes_cons hz hq'.1 (by omega) (by omega), fun z hz' => ?_, by rw [Int.pow_succ]; omega⟩
    rcases List.mem_cons.mp hz' with rfl | hz'
    · exact Int.le_refl _
    · have := hb z hz'
      omega
  · rintro ρ m' ⟨y, zs, a3, b3, c3, w, rfl, rfl, hl, hz, hb, hy⟩
    have hlen : (rangeD 0 t.toNat).length = t.toNat := by simp [rangeD]
    rw [hlen] at hl hy
    have h5 : (3 : Int) * 5 ^ t.toNat ≤ 375 := by
      have : t.toNat = 0 ∨ t.toNat = 1 ∨ t.toNat = 2 ∨ t.toNat = 3 := by omega
      rcases this with e | e | e | e <;> rw [e] <;> decide
    simp only [w_var, w_const, w_glob, w_op, w_nil, w_cons, w_tst, w_and, w_or, w_ife, w_chain, w_slc, w_lc, w_meth, w_meth2, w_ifs0, w_ifs1, w_over, w_range1, w_range2, w_enum, w_zip, w_expr, w_assign, w_par, w_aug, w_setIx, w_retE, w_retN, w_if, w_while, w_for, w_pass, w_brk, w_cont, w_bad, w_snil, w_scons, p_call, p_tup, p_mkT, p_mkLt, p_mkLf, p_lst, p_addI, p_addT, p_addS, p_addL, p_sub, p_mul, p_fdiv, p_mod, p_pow, p_neg, p_not, p_lt, p_le, p_gt, p_ge, p_isN, p_isnotN, p_isB, p_isnotB, p_eqI, p_neI, p_eqB, p_neB, p_len, p_lenL, p_lenC, p_ixC, p_ixT, p_ixL, p_ixR, p_max2, p_min2, p_abs, p_intI, p_intB, p_tupOf, p_listOf, p_sum, p_all, p_any, p_isI, p_isC, s_int, s_bl, s_tup, s_lst, s_str, s_non, s_ins, p_in, p_notin, t_bl, t_int, t_non, t_tup, t_lst, i_tup, i_lst, l_lst, ii_int, ii_bl, ii_tup, ii_lst, ii_str, ii_non, a_name, a_tup, a_nil, a_cons, sa_nil, sa_cons, i_at0, i_at1, i_at2, i_setR, i_ix30, i_ix31, i_ix32, i_lowI, i_lowB, i_lowN, i_lowT, p_eqT, p_neT, p_slT, p_slF, p_sl3, k_tup, k_lst, k_int, k_ins, p_app, i_isTt, i_isTl, i_isTr, l_len0, l_len1, l_len2, l_len3, l_len4, l_len5, l_len6, l_len7, l_len8, l_len9, l_len10, l_len11, l_len12, p_mulL, p_back, p_slLt, p_slLf, w_asgG, w_gName, w_gIx, w_gAttr, w_gTup, w_gNil, w_gCons, w_setAttr, p_neTP, p_eqTP, p_eqLI, p_neLI, i_recvI, Ok_ok, Ok_bad, OkS_ok, OkS_bad, OkS_then, onN_nx, onN_rt, onN_bk, onN_ct, onT_nx, onT_ct, onT_bk, onT_rt, onR_nx, onR_rt, Ok_ret, List.getElem?_cons_zero, List.getElem?_cons_succ, List.set_cons_zero, List.set_cons_succ, cut_same, Option.some.injEq, exists_eq_left', exists_eq_left, D.int.injEq, D.bl.injEq, D.tup.injEq, D.lst.injEq, D.ref.injEq, Cell.lst.injEq, Option.bind_some, Option.map_some, Bool.not_true, Bool.not_false, if_true, if_false, Bool.false_eq_true, reduceCtorEq, decide_true, decide_false, true_and, and_true, Prod.mk.injEq, and_self, String.reduceEq, Bool.or_false, Bool.false_or, Bool.or_true, Bool.true_or, Bool.and_true, Bool.true_and, Bool.and_false, Bool.false_and, reduceIte, beq_self_eq_true, l_ref at_appS, List.length_reverse, List.length_map]
    have er : (((y :: zs).reverse).map D.int).reverse = (y :: zs).map .int := by rw [← List.map_reverse, List.reverse_reverse]
    refine ⟨lim40 (by simp; omega), y :: zs, a3, b3, c3, ?_, hz, fun z hz' => by have := hb z hz'; omega⟩
    rw [er]
    exact cut_dcA (by rw [i_lowT]; exact lows_ints _ _)
end HT

namespace HT
open Rf L2
/-- drawn rows: small ones -/
structure Few (rs : Rws) (n : Nat) : Prop where
  len : rs.length ≤ n
  all : ∀ p ∈ rs, (1 ≤ p.1 ∧ p.1 ≤ 752) ∧ (1 ≤ p.2 ∧ p.2 ≤ 4)
theorem Few.pos {rs : Rws} {n : Nat} (h : Few rs n) : Pos1 rs := fun p hp => (h.all p hp).2.1
theorem Few.xlen : ∀ {rs : Rws} {n : Nat}, Few rs n → (expand rs).length ≤ 4 * n ∧ (expand rs).sum ≤ 3008 * n
  | [], n, _ => by simp [expand]; omega
  | p :: rs, 0, h => by have := h.len; simp at this
  | p :: rs, n + 1, h => by
    have ih := Few.xlen (rs := rs) (n := n) ⟨by have := h.len; simpa using this, fun q hq => h.all q (List.mem_cons_of_mem _ hq)⟩
    have hp := h.all p List.mem_cons_self
    rw [expand_cons, List.length_append, List.length_replicate, List.sum_append, sum_rep, Int.toNat_of_nonneg (by omega)]
    have h1 : p.1 * p.2 ≤ p.1 * 4 := Int.mul_le_mul_of_nonneg_left hp.2.2 (by omega)
    omega
theorem Few.xall {rs : Rws} {n : Nat} (h : Few rs n) : ∀ x ∈ expand rs, 1 ≤ x ∧ x ≤ 752 := fun x hx => by
  obtain ⟨p, hp, rfl⟩ := mem_expand hx
  exact (h.all p hp).1
theorem Few.ok {rs : Rws} {n : Nat} (h : Few rs n) (hn : n ≤ 50) : RowsOk rs := .of (Nat.le_trans h.len (by omega)) h.pos (fun x hx => (h.xall x hx).1) (by
  have := h.xlen.2
  have : (152000 : Int) ≤ B60 := by unfold B60; decide
  omega)
theorem smallN {i : Int} (h0 : 0 ≤ i) (h : i ≤ 1000000000) : Sm i = true := small' h0 (Int.lt_of_le_of_lt h (by decide +kernel))
theorem s__law_cl_rows (k : Nat) {a b c : Int} {m : Mem} {n : Nat} (hm : m[n]? = some (dc a b c)) {ns : List Int} (hs : Sizes ns) (hb : ∀ z ∈ ns, z ≤ 375) {t : Nat} (ht : 1 ≤ t) (ht' : t ≤ 10) : Ok (callN P (k+3) 25 [.ref n, .tup (ns.map .int), .int t] m) fun r => ∃ rs a b c, r = (.tup (rs.map pairT), m.set n (dc a b c)) ∧ Few rs t ∧ rs ≠ [] := by
  rw [u25]
  obtain ⟨s, ns', rfl⟩ : ∃ s ns', ns = s :: ns' := by
    cases ns with
    | nil => have := hs.len; simp at this
    | cons s ns' => exact ⟨s, ns', rfl⟩
  have hs1 := (hs.all s List.mem_cons_self).1
  have hs2 := hb s List.mem_cons_self
  simp only [b25x1, b25t2, b25t1, b25, w_var, w_const, w_glob, w_op, w_nil, w_cons, w_tst, w_and, w_or, w_ife, w_chain, w_slc, w_lc, w_meth, w_meth2, w_ifs0, w_ifs1, w_over, w_range1, w_range2, w_enum, w_zip, w_expr, w_assign, w_par, w_aug, w_setIx, w_retE, w_retN, w_if, w_while, w_for, w_pass, w_brk, w_cont, w_bad, w_snil, w_scons, p_call, p_tup, p_mkT, p_mkLt, p_mkLf, p_lst, p_addI, p_addT, p_addS, p_addL, p_sub, p_mul, p_fdiv, p_mod, p_pow, p_neg, p_not, p_lt, p_le, p_gt, p_ge, p_isN, p_isnotN, p_isB, p_isnotB, p_eqI, p_neI, p_eqB, p_neB, p_len, p_lenL, p_lenC, p_ixC, p_ixT, p_ixL, p_ixR, p_max2, p_min2, p_abs, p_intI, p_intB, p_tupOf, p_listOf, p_sum, p_all, p_any, p_isI, p_isC, s_int, s_bl, s_tup, s_lst, s_str, s_non, s_ins, p_in, p_notin, t_bl, t_int, t_non, t_tup, t_lst, i_tup, i_lst, l_lst, ii_int, ii_bl, ii_tup, ii_lst, ii_str, ii_non, a_name, a_tup, a_nil, a_cons, sa_nil, sa_cons, i_at0, i_at1, i_at2, i_setR, i_ix30, i_ix31, i_ix32, i_lowI, i_lowB, i_lowN, i_lowT, p_eqT, p_neT, p_slT, p_slF, p_sl3, k_tup, k_lst, k_int, k_ins, p_app, i_isTt, i_isTl, i_isTr, l_len0, l_len1, l_len2, l_len3, l_len4, l_len5, l_len6, l_len7, l_len8, l_len9, l_len10, l_len11, l_len12, p_mulL, p_back, p_slLt, p_slLf, w_asgG, w_gName, w_gIx, w_gAttr, w_gTup, w_gNil, w_gCons, w_setAttr, p_neTP, p_eqTP, p_eqLI, p_neLI, i_recvI, Ok_ok, Ok_bad, OkS_ok, OkS_bad, OkS_then, onN_nx, onN_rt, onN_bk, onN_ct, onT_nx, onT_ct, onT_bk, onT_rt, onR_nx, onR_rt, Ok_ret, List.getElem?_cons_zero, List.getElem?_cons_succ, List.set_cons_zero, List.set_cons_succ, cut_same, Option.some.injEq, exists_eq_left', exists_eq_left, D.int.injEq, D.bl.injEq, D.tup.injEq, D.lst.injEq, D.ref.injEq, Cell.lst.injEq, Option.bind_some, Option.map_some, Bool.not_true, Bool.not_false, if_true, if_false, Bool.false_eq_true, reduceCtorEq, decide_true, decide_false, true_and, and_true, Prod.mk.injEq, and_self, String.reduceEq, Bool.or_false, Bool.false_or, Bool.or_true, Bool.true_or, Bool.and_true, Bool.true_and, Bool.and_false, Bool.false_and, reduceIte, beq_self_eq_true]
  refine (s_roll _ (at_lt hm) (by omega) (smallN (by omega) (by omega))).imp fun r ⟨y, a2, b2, c2, e, hy0, hy1⟩ => ?_
  subst e
  simp only [w_var, w_const, w_glob, w_op, w_nil, w_cons, w_tst, w_and, w_or, w_ife, w_chain, w_slc, w_lc, w_meth, w_meth2, w_ifs0, w_ifs1, w_over, w_range1, w_range2, w_enum, w_zip, w_expr, w_assign, w_par, w_aug, w_setIx, w_retE, w_retN, w_if, w_while, w_for, w_pass, w_brk, w_cont, w_bad, w_snil, w_scons, p_call, p_tup, p_mkT, p_mkLt, p_mkLf, p_lst, p_addI, p_addT, p_addS, p_addL, p_sub, p_mul, p_fdiv, p_mod, p_pow, p_neg, p_not, p_lt, p_le, p_gt, p_ge, p_isN, p_isnotN, p_isB, p_isnotB, p_eqI, p_neI, p_eqB, p_neB, p_len, p_lenL, p_lenC, p_ixC, p_ixT, p_ixL, p_ixR, p_max2, p_min2, p_abs, p_intI, p_intB, p_tupOf, p_listOf, p_sum, p_all, p_any, p_isI, p_isC, s_int, s_bl, s_tup, s_lst, s_str, s_non, s_ins, p_in, p_notin, t_bl, t_int, t_non, t_tup, t_lst, i_tup, i_lst, l_lst, ii_int, ii_bl, ii_tup, ii_lst, ii_str, ii_non, a_name, a_tup, a_nil, a_cons, sa_nil, sa_cons, i_at0, i_at1, i_at2, i_setR, i_ix30, i_ix31, i_ix32, i_lowI, i_lowB, i_lowN, i_lowT, p_eqT, p_neT, p_slT, p_slF, p_sl3, k_tup, k_lst, k_int, k_ins, p_app, i_isTt, i_isTl, i_isTr, l_len0, l_len1, l_len2, l_len3, l_len4, l_len5, l_len6, l_len7, l_len8, l_len9, l_len10, l_len11, l_len12, p_mulL, p_back, p_slLt, p_slLf, w_asgG, w_gName, w_gIx, w_gAttr, w_gTup, w_gNil, w_gCons, w_setAttr, p_neTP, p_eqTP, p_eqLI, p_neLI, i_recvI, Ok_ok, Ok_bad, OkS_ok, OkS_bad, OkS_then, onN_nx, onN_rt, onN_bk, onN_ct, onT_nx, onT_ct, onT_bk, onT_rt, onR_nx, onR_rt, Ok_ret, List.getElem?_cons_zero, List.getElem?_cons_succ, List.set_cons_zero, List.set_cons_succ, cut_same, Option.some.injEq, exists_eq_left', exists_eq_left, D.int.injEq, D.bl.injEq, D.tup.injEq, D.lst.injEq, D.ref.injEq, Cell.lst.injEq, Option.bind_some, Option.map_some, Bool.not_true, Bool.not_false, if_true, if_false, Bool.false_eq_true, reduceCtorEq, decide_true, decide_false, true_and, and_true, Prod.mk.injEq, and_self, String.reduceEq, Bool.or_false, Bool.false_or, Bool.or_true, Bool.true_or, Bool.and_true, Bool.true_and, Bool.and_false, Bool.false_and, reduceIte, beq_self_eq_true, set_lt hm]
  refine ⟨by simp [small62]; omega, for_ok (fun i ρ m' => ∃ rs a b c w, ρ = [some (.ref n), some (.tup ((s :: ns').map .int)), some (.int t), some (.ref m.length), w] ∧ m' = m.set n (dc a b c) ++ [.lst (rs.map pairT)] ∧ rs.length = i ∧ Few rs i) ⟨[], a2, b2, c2, none, rfl, rfl, rfl, ⟨Nat.le_refl _, fun p hp => by cases hp⟩⟩ (fun _ _ _ _ => rfl) ?_ ?_⟩
  · rintro i d ρ m' hd ⟨rs, a3, b3, c3, w, rfl, rfl, hl, hf⟩
    obtain ⟨hi, rfl⟩ := range_get hd
    have hm3 := at_set hm (dc a3 b3 c3)
    refine ⟨_, rfl, ?_⟩
    have hmul : mulB 2 s = true := mul64 (.inl (by decide))
    simp only [w_var, w_const, w_glob, w_op, w_nil, w_cons, w_tst, w_and, w_or, w_ife, w_chain, w_slc, w_lc, w_meth, w_meth2, w_ifs0, w_ifs1, w_over, w_range1, w_range2, w_enum, w_zip, w_expr, w_assign, w_par, w_aug, w_setIx, w_retE, w_retN, w_if, w_while, w_for, w_pass, w_brk, w_cont, w_bad, w_snil, w_scons, p_call, p_tup, p_mkT, p_mkLt, p_mkLf, p_lst, p_addI, p_addT, p_addS, p_addL, p_sub, p_mul, p_fdiv, p_mod, p_pow, p_neg, p_not, p_lt, p_le, p_gt, p_ge, p_isN, p_isnotN, p_isB, p_isnotB, p_eqI, p_neI, p_eqB, p_neB, p_len, p_lenL, p_lenC, p_ixC, p_ixT, p_ixL, p_ixR, p_max2, p_min2, p_abs, p_intI, p_intB, p_tupOf, p_listOf, p_sum, p_all, p_any, p_isI, p_isC, s_int, s_bl, s_tup, s_lst, s_str, s_non, s_ins, p_in, p_notin, t_bl, t_int, t_non, t_tup, t_lst, i_tup, i_lst, l_lst, ii_int, ii_bl, ii_tup, ii_lst, ii_str, ii_non, a_name, a_tup, a_nil, a_cons, sa_nil, sa_cons, i_at0, i_at1, i_at2, i_setR, i_ix30, i_ix31, i_ix32, i_lowI, i_lowB, i_lowN, i_lowT, p_eqT, p_neT, p_slT, p_slF, p_sl3, k_tup, k_lst, k_int, k_ins, p_app, i_isTt, i_isTl, i_isTr, l_len0, l_len1, l_len2, l_len3, l_len4, l_len5, l_len6, l_len7, l_len8, l_len9, l_len10, l_len11, l_len12, p_mulL, p_back, p_slLt, p_slLf, w_asgG, w_gName, w_gIx, w_gAttr, w_gTup, w_gNil, w_gCons, w_setAttr, p_neTP, p_eqTP, p_eqLI, p_neLI, i_recvI, Ok_ok, Ok_bad, OkS_ok, OkS_bad, OkS_then, onN_nx, onN_rt, onN_bk, onN_ct, onT_nx, onT_ct, onT_bk, onT_rt, onR_nx, onR_rt, Ok_ret, List.getElem?_cons_zero, List.getElem?_cons_succ, List.set_cons_zero, List.set_cons_succ, cut_same, Option.some.injEq, exists_eq_left', exists_eq_left, D.int.injEq, D.bl.injEq, D.tup.injEq, D.lst.injEq, D.ref.injEq, Cell.lst.injEq, Option.bind_some, Option.map_some, Bool.not_true, Bool.not_false, if_true, if_false, Bool.false_eq_true, reduceCtorEq, decide_true, decide_false, true_and, and_true, Prod.mk.injEq, and_self, String.reduceEq, Bool.or_false, Bool.false_or, Bool.or_true, Bool.true_or, Bool.and_true, Bool.true_and, Bool.and_false, Bool.false_and, reduceIte, beq_self_eq_true, recv_ref at_appS, List.map_cons, i_at0, hmul]
    refine (s_roll _ (at_lt hm3) (by omega) (smallN (by omega) (by omega))).imp fun r ⟨u, a4, b4, c4, e, hu0, hu1⟩ => ?_
    subst e
    have hm4 := at_set hm (dc a4 b4 c4)
    simp only [w_var, w_const, w_glob, w_op, w_nil, w_cons, w_tst, w_and, w_or, w_ife, w_chain, w_slc, w_lc, w_meth, w_meth2, w_ifs0, w_ifs1, w_over, w_range1, w_range2, w_enum, w_zip, w_expr, w_assign, w_par, w_aug, w_setIx, w_retE, w_retN, w_if, w_while, w_for, w_pass, w_brk, w_cont, w_bad, w_snil, w_scons, p_call, p_tup, p_mkT, p_mkLt, p_mkLf, p_lst, p_addI, p_addT, p_addS, p_addL, p_sub, p_mul, p_fdiv, p_mod, p_pow, p_neg, p_not, p_lt, p_le, p_gt, p_ge, p_isN, p_isnotN, p_isB, p_isnotB, p_eqI, p_neI, p_eqB, p_neB, p_len, p_lenL, p_lenC, p_ixC, p_ixT, p_ixL, p_ixR, p_max2, p_min2, p_abs, p_intI, p_intB, p_tupOf, p_listOf, p_sum, p_all, p_any, p_isI, p_isC, s_int, s_bl, s_tup, s_lst, s_str, s_non, s_ins, p_in, p_notin, t_bl, t_int, t_non, t_tup, t_lst, i_tup, i_lst, l_lst, ii_int, ii_bl, ii_tup, ii_lst, ii_str, ii_non, a_name, a_tup, a_nil, a_cons, sa_nil, sa_cons, i_at0, i_at1, i_at2, i_setR, i_ix30, i_ix31, i_ix32, i_lowI, i_lowB, i_lowN, i_lowT, p_eqT, p_neT, p_slT, p_slF, p_sl3, k_tup, k_lst, k_int, k_ins, p_app, i_isTt, i_isTl, i_isTr, l_len0, l_len1, l_len2, l_len3, l_len4, l_len5, l_len6, l_len7, l_len8, l_len9, l_len10, l_len11, l_len12, p_mulL, p_back, p_slLt, p_slLf, w_asgG, w_gName, w_gIx, w_gAttr, w_gTup, w_gNil, w_gCons, w_setAttr, p_neTP, p_eqTP, p_eqLI, p_neLI, i_recvI, Ok_ok, Ok_bad, OkS_ok, OkS_bad, OkS_then, onN_nx, onN_rt, onN_bk, onN_ct, onT_nx, onT_ct, onT_bk, onT_rt, onR_nx, onR_rt, Ok_ret, List.getElem?_cons_zero, List.getElem?_cons_succ, List.set_cons_zero, List.set_cons_succ, cut_same, Option.some.injEq, exists_eq_left', exists_eq_left, D.int.injEq, D.bl.injEq, D.tup.injEq, D.lst.injEq, D.ref.injEq, Cell.lst.injEq, Option.bind_some, Option.map_some, Bool.not_true, Bool.not_false, if_true, if_false, Bool.false_eq_true, reduceCtorEq, decide_true, decide_false, true_and, and_true, Prod.mk.injEq, and_self, String.reduceEq, Bool.or_false, Bool.false_or, Bool.or_true, Bool.true_or, Bool.and_true, Bool.true_and, Bool.and_false, Bool.false_and, reduceIte, beq_self_eq_true, set_lt hm3, List.set_set]
    refine (s_pick _ (at_lt hm4) (ns := [1, 1, 4]) (by simp) (by simp)).imp fun r ⟨q, a5, b5, c5, e, hq⟩ => ?_
    subst e
    have hm5 := at_set hm (dc a5 b5 c5)
    have hq' : 1 ≤ q ∧ q ≤ 4 := by
      simp only [List.mem_cons, List.not_mem_nil, or_false] at hq
      omega
    simp only [w_var, w_const, w_glob, w_op, w_nil, w_cons, w_tst, w_and, w_or, w_ife, w_chain, w_slc, w_lc, w_meth, w_meth2, w_ifs0, w_ifs1, w_over, w_range1, w_range2, w_enum, w_zip, w_expr, w_assign, w_par, w_aug, w_setIx, w_retE, w_retN, w_if, w_while, w_for, w_pass, w_brk, w_cont, w_bad, w_snil, w_scons, p_call, p_tup, p_mkT, p_mkLt, p_mkLf, p_lst, p_addI, p_addT, p_addS, p_addL, p_sub, p_mul, p_fdiv, p_mod, p_pow, p_neg, p_not, p_lt, p_le, p_gt, p_ge, p_isN, p_isnotN, p_isB, p_isnotB, p_eqI, p_neI, p_eqB, p_neB, p_len, p_lenL, p_lenC, p_ixC, p_ixT, p_ixL, p_ixR, p_max2, p_min2, p_abs, p_intI, p_intB, p_tupOf, p_listOf, p_sum, p_all, p_any, p_isI, p_isC, s_int, s_bl, s_tup, s_lst, s_str, s_non, s_ins, p_in, p_notin, t_bl, t_int, t_non, t_tup, t_lst, i_tup, i_lst, l_lst, ii_int, ii_bl, ii_tup, ii_lst, ii_str, ii_non, a_name, a_tup, a_nil, a_cons, sa_nil, sa_cons, i_at0, i_at1, i_at2, i_setR, i_ix30, i_ix31, i_ix32, i_lowI, i_lowB, i_lowN, i_lowT, p_eqT, p_neT, p_slT, p_slF, p_sl3, k_tup, k_lst, k_int, k_ins, p_app, i_isTt, i_isTl, i_isTr, l_len0, l_len1, l_len2, l_len3, l_len4, l_len5, l_len6, l_len7, l_len8, l_len9, l_len10, l_len11, l_len12, p_mulL, p_back, p_slLt, p_slLf, w_asgG, w_gName, w_gIx, w_gAttr, w_gTup, w_gNil, w_gCons, w_setAttr, p_neTP, p_eqTP, p_eqLI, p_neLI, i_recvI, Ok_ok, Ok_bad, OkS_ok, OkS_bad, OkS_then, onN_nx, onN_rt, onN_bk, onN_ct, onT_nx, onT_ct, onT_bk, onT_rt, onR_nx, onR_rt, Ok_ret, List.getElem?_cons_zero, List.getElem?_cons_succ, List.set_cons_zero, List.set_cons_succ, cut_same, Option.some.injEq, exists_eq_left', exists_eq_left, D.int.injEq, D.bl.injEq, D.tup.injEq, D.lst.injEq, D.ref.injEq, Cell.lst.injEq, Option.bind_some, Option.map_some, Bool.not_true, Bool.not_false, if_true, if_false, Bool.false_eq_true, reduceCtorEq, decide_true, decide_false, true_and, and_true, Prod.mk.injEq, and_self, String.reduceEq, Bool.or_false, Bool.false_or, Bool.or_true, Bool.true_or, Bool.and_true, Bool.true_and, Bool.and_false, Bool.false_and, reduceIte, beq_self_eq_true, set_lt hm4, List.set_set]
    refine (s_roll _ (at_lt hm5) (by omega) (smallN (by omega) (by omega))).imp fun r ⟨v, a6, b6, c6, e, hv0, hv1⟩ => ?_
    subst e
    simp only [w_var, w_const, w_glob, w_op, w_nil, w_cons, w_tst, w_and, w_or, w_ife, w_chain, w_slc, w_lc, w_meth, w_meth2, w_ifs0, w_ifs1, w_over, w_range1, w_range2, w_enum, w_zip, w_expr, w_assign, w_par, w_aug, w_setIx, w_retE, w_retN, w_if, w_while, w_for, w_pass, w_brk, w_cont, w_bad, w_snil, w_scons, p_call, p_tup, p_mkT, p_mkLt, p_mkLf, p_lst, p_addI, p_addT, p_addS, p_addL, p_sub, p_mul, p_fdiv, p_mod, p_pow, p_neg, p_not, p_lt, p_le, p_gt, p_ge, p_isN, p_isnotN, p_isB, p_isnotB, p_eqI, p_neI, p_eqB, p_neB, p_len, p_lenL, p_lenC, p_ixC, p_ixT, p_ixL, p_ixR, p_max2, p_min2, p_abs, p_intI, p_intB, p_tupOf, p_listOf, p_sum, p_all, p_any, p_isI, p_isC, s_int, s_bl, s_tup, s_lst, s_str, s_non, s_ins, p_in, p_notin, t_bl, t_int, t_non, t_tup, t_lst, i_tup, i_lst, l_lst, ii_int, ii_bl, ii_tup, ii_lst, ii_str, ii_non, a_name, a_tup, a_nil, a_cons, sa_nil, sa_cons, i_at0, i_at1, i_at2, i_setR, i_ix30, i_ix31, i_ix32, i_lowI, i_lowB, i_lowN, i_lowT, p_eqT, p_neT, p_slT, p_slF, p_sl3, k_tup, k_lst, k_int, k_ins, p_app, i_isTt, i_isTl, i_isTr, l_len0, l_len1, l_len2, l_len3, l_len4, l_len5, l_len6, l_len7, l_len8, l_len9, l_len10, l_len11, l_len12, p_mulL, p_back, p_slLt, p_slLf, w_asgG, w_gName, w_gIx, w_gAttr, w_gTup, w_gNil, w_gCons, w_setAttr, p_neTP, p_eqTP, p_eqLI, p_neLI, i_recvI, Ok_ok, Ok_bad, OkS_ok, OkS_bad, OkS_then, onN_nx, onN_rt, onN_bk, onN_ct, onT_nx, onT_ct, onT_bk, onT_rt, onR_nx, onR_rt, Ok_ret, List.getElem?_cons_zero, List.getElem?_cons_succ, List.set_cons_zero, List.set_cons_succ, cut_same, Option.some.injEq, exists_eq_left', exists_eq_left, D.int.injEq, D.bl.injEq, D.tup.injEq, D.lst.injEq, D.ref.injEq, Cell.lst.injEq, Option.bind_some, Option.map_some, Bool.not_true, Bool.not_false, if_true, if_false, Bool.false_eq_true, reduceCtorEq, decide_true, decide_false, true_and, and_true, Prod.mk.injEq, and_self, String.reduceEq, Bool.or_false, Bool.false_or, Bool.or_true, Bool.true_or, Bool.and_true, Bool.true_and, Bool.and_false, Bool.false_and, reduceIte, beq_self_eq_true, set_lt hm5, List.set_set, at_appS, set_appS]
    refine ⟨lim1000 (by rw [List.length_map]; omega), rs ++ [(1 + u, 1 + v)], a6, b6, c6, _, rfl, by rw [List.map_append]; rfl, by simp [hl], by simp [hl], fun p hp => ?_⟩
    rcases List.mem_append.mp hp with hp | hp
    · exact hf.all p hp
    · rw [List.mem_singleton] at hp
      subst hp
      dsimp only
      omega
  · rintro ρ m' ⟨rs, a3, b3, c3, w, rfl, rfl, hl, hf⟩
    have hlen : (rangeD 0 (1 + y).toNat).length = (1 + y).toNat := by simp [rangeD]
    rw [hlen] at hl
    simp only [w_var, w_const, w_glob, w_op, w_nil, w_cons, w_tst, w_and, w_or, w_ife, w_chain, w_slc, w_lc, w_meth, w_meth2, w_ifs0, w_ifs1, w_over, w_range1, w_range2, w_enum, w_zip, w_expr, w_assign, w_par, w_aug, w_setIx, w_retE, w_retN, w_if, w_while, w_for, w_pass, w_brk, w_cont, w_bad, w_snil, w_scons, p_call, p_tup, p_mkT, p_mkLt, p_mkLf, p_lst, p_addI, p_addT, p_addS, p_addL, p_sub, p_mul, p_fdiv, p_mod, p_pow, p_neg, p_not, p_lt, p_le, p_gt, p_ge, p_isN, p_isnotN, p_isB, p_isnotB, p_eqI, p_neI, p_eqB, p_neB, p_len, p_lenL, p_lenC, p_ixC, p_ixT, p_ixL, p_ixR, p_max2, p_min2, p_abs, p_intI, p_intB, p_tupOf, p_listOf, p_sum, p_all, p_any, p_isI, p_isC, s_int, s_bl, s_tup, s_lst, s_str, s_non, s_ins, p_in, p_notin, t_bl, t_int, t_non, t_tup, t_lst, i_tup, i_lst, l_lst, ii_int, ii_bl, ii_tup, ii_lst, ii_str, ii_non, a_name, a_tup, a_nil, a_cons, sa_nil, sa_cons, i_at0, i_at1, i_at2, i_setR, i_ix30, i_ix31, i_ix32, i_lowI, i_lowB, i_lowN, i_lowT, p_eqT, p_neT, p_slT, p_slF, p_sl3, k_tup, k_lst, k_int, k_ins, p_app, i_isTt, i_isTl, i_isTr, l_len0, l_len1, l_len2, l_len3, l_len4, l_len5, l_len6, l_len7, l_len8, l_len9, l_len10, l_len11, l_len12, p_mulL, p_back, p_slLt, p_slLf, w_asgG, w_gName, w_gIx, w_gAttr, w_gTup, w_gNil, w_gCons, w_setAttr, p_neTP, p_eqTP, p_eqLI, p_neLI, i_recvI, Ok_ok, Ok_bad, OkS_ok, OkS_bad, OkS_then, onN_nx, onN_rt, onN_bk, onN_ct, onT_nx, onT_ct, onT_bk, onT_rt, onR_nx, onR_rt, Ok_ret, List.getElem?_cons_zero, List.getElem?_cons_succ, List.set_cons_zero, List.set_cons_succ, cut_same, Option.some.injEq, exists_eq_left', exists_eq_left, D.int.injEq, D.bl.injEq, D.tup.injEq, D.lst.injEq, D.ref.injEq, Cell.lst.injEq, Option.bind_some, Option.map_some, Bool.not_true, Bool.not_false, if_true, if_false, Bool.false_eq_true, reduceCtorEq, decide_true, decide_false, true_and, and_true, Prod.mk.injEq, and_self, String.reduceEq, Bool.or_false, Bool.false_or, Bool.or_true, Bool.true_or, Bool.and_true, Bool.true_and, Bool.and_false, Bool.false_and, reduceIte, beq_self_eq_true, i_ref at_appS]
    refine ⟨rs, a3, b3, c3, cut_dcA (by rw [i_lowT]; exact lows_pairs _ _), ⟨by omega, hf.all⟩, fun e => ?_⟩
    rw [e] at hl
    simp at hl
    omega
theorem s__law_cl_rooms (k : Nat) {rs : Rws} {n : Nat} (m : Mem) (h : Few rs n) (hn : n ≤ 50) : callN P (k+1) 26 [.tup (rs.map pairT)] m = .ok (.lst ((expand rs).map .int), m) := eq_of <| by
  rw [u26]
  simp only [b26x1, b26t2, b26t1, b26, w_var, w_const, w_glob, w_op, w_nil, w_cons, w_tst, w_and, w_or, w_ife, w_chain, w_slc, w_lc, w_meth, w_meth2, w_ifs0, w_ifs1, w_over, w_range1, w_range2, w_enum, w_zip, w_expr, w_assign, w_par, w_aug, w_setIx, w_retE, w_retN, w_if, w_while, w_for, w_pass, w_brk, w_cont, w_bad, w_snil, w_scons, p_call, p_tup, p_mkT, p_mkLt, p_mkLf, p_lst, p_addI, p_addT, p_addS, p_addL, p_sub, p_mul, p_fdiv, p_mod, p_pow, p_neg, p_not, p_lt, p_le, p_gt, p_ge, p_isN, p_isnotN, p_isB, p_isnotB, p_eqI, p_neI, p_eqB, p_neB, p_len, p_lenL, p_lenC, p_ixC, p_ixT, p_ixL, p_ixR, p_max2, p_min2, p_abs, p_intI, p_intB, p_tupOf, p_listOf, p_sum, p_all, p_any, p_isI, p_isC, s_int, s_bl, s_tup, s_lst, s_str, s_non, s_ins, p_in, p_notin, t_bl, t_int, t_non, t_tup, t_lst, i_tup, i_lst, l_lst, ii_int, ii_bl, ii_tup, ii_lst, ii_str, ii_non, a_name, a_tup, a_nil, a_cons, sa_nil, sa_cons, i_at0, i_at1, i_at2, i_setR, i_ix30, i_ix31, i_ix32, i_lowI, i_lowB, i_lowN, i_lowT, p_eqT, p_neT, p_slT, p_slF, p_sl3, k_tup, k_lst, k_int, k_ins, p_app, i_isTt, i_isTl, i_isTr, l_len0, l_len1, l_len2, l_len3, l_len4, l_len5, l_len6, l_len7, l_len8, l_len9, l_len10, l_len11, l_len12, p_mulL, p_back, p_slLt, p_slLf, w_asgG, w_gName, w_gIx, w_gAttr, w_gTup, w_gNil, w_gCons, w_setAttr, p_neTP, p_eqTP, p_eqLI, p_neLI, i_recvI, Ok_ok, Ok_bad, OkS_ok, OkS_bad, OkS_then, onN_nx, onN_rt, onN_bk, onN_ct, onT_nx, onT_ct, onT_bk, onT_rt, onR_nx, onR_rt, Ok_ret, List.getElem?_cons_zero, List.getElem?_cons_succ, List.set_cons_zero, List.set_cons_succ, cut_same, Option.some.injEq, exists_eq_left', exists_eq_left, D.int.injEq, D.bl.injEq, D.tup.injEq, D.lst.injEq, D.ref.injEq, Cell.lst.injEq, Option.bind_some, Option.map_some, Bool.not_true, Bool.not_false, if_true, if_false, Bool.false_eq_true, reduceCtorEq, decide_true, decide_false, true_and, and_true, Prod.mk.injEq, and_self, String.reduceEq, Bool.or_false, Bool.false_or, Bool.or_true, Bool.true_or, Bool.and_true, Bool.true_and, Bool.and_false, Bool.false_and, reduceIte, beq_self_eq_true]
  refine for_ok (fun i ρ m' => ∃ y z, ρ = [some (.tup (rs.map pairT)), some (.lst ((expand (rs.take i)).map .int)), y, z] ∧ m' = m) ⟨none, none, rfl, rfl⟩ (fun _ _ _ _ => rfl) ?_ ?_
  · rintro i d ρ m' hd ⟨y, z, rfl, rfl⟩
    rw [List.getElem?_map, Option.map_eq_some_iff] at hd
    obtain ⟨p, hp, rfl⟩ := hd
    have hpp := h.all p (List.mem_of_getElem? hp)
    have e : rs.take (i + 1) = rs.take i ++ [p] := by rw [List.take_add_one, hp]; rfl
    have hl := (Few.xlen (rs := rs.take i) (n := n) ⟨Nat.le_trans (by rw [List.length_take]; exact Nat.min_le_right _ _) h.len, fun q hq => h.all q (List.mem_of_mem_take hq)⟩).1
    refine ⟨_, rfl, ?_⟩
    simp only [w_var, w_const, w_glob, w_op, w_nil, w_cons, w_tst, w_and, w_or, w_ife, w_chain, w_slc, w_lc, w_meth, w_meth2, w_ifs0, w_ifs1, w_over, w_range1, w_range2, w_enum, w_zip, w_expr, w_assign, w_par, w_aug, w_setIx, w_retE, w_retN, w_if, w_while, w_for, w_pass, w_brk, w_cont, w_bad, w_snil, w_scons, p_call, p_tup, p_mkT, p_mkLt, p_mkLf, p_lst, p_addI, p_addT, p_addS, p_addL, p_sub, p_mul, p_fdiv, p_mod, p_pow, p_neg, p_not, p_lt, p_le, p_gt, p_ge, p_isN, p_isnotN, p_isB, p_isnotB, p_eqI, p_neI, p_eqB, p_neB, p_len, p_lenL, p_lenC, p_ixC, p_ixT, p_ixL, p_ixR, p_max2, p_min2, p_abs, p_intI, p_intB, p_tupOf, p_listOf, p_sum, p_all, p_any, p_isI, p_isC, s_int, s_bl, s_tup, s_lst, s_str, s_non, s_ins, p_in, p_notin, t_bl, t_int, t_non, t_tup, t_lst, i_tup, i_lst, l_lst, ii_int, ii_bl, ii_tup, ii_lst, ii_str, ii_non, a_name, a_tup, a_nil, a_cons, sa_nil, sa_cons, i_at0, i_at1, i_at2, i_setR, i_ix30, i_ix31, i_ix32, i_lowI, i_lowB, i_lowN, i_lowT, p_eqT, p_neT, p_slT, p_slF, p_sl3, k_tup, k_lst, k_int, k_ins, p_app, i_isTt, i_isTl, i_isTr, l_len0, l_len1, l_len2, l_len3, l_len4, l_len5, l_len6, l_len7, l_len8, l_len9, l_len10, l_len11, l_len12, p_mulL, p_back, p_slLt, p_slLf, w_asgG, w_gName, w_gIx, w_gAttr, w_gTup, w_gNil, w_gCons, w_setAttr, p_neTP, p_eqTP, p_eqLI, p_neLI, i_recvI, Ok_ok, Ok_bad, OkS_ok, OkS_bad, OkS_then, onN_nx, onN_rt, onN_bk, onN_ct, onT_nx, onT_ct, onT_bk, onT_rt, onR_nx, onR_rt, Ok_ret, List.getElem?_cons_zero, List.getElem?_cons_succ, List.set_cons_zero, List.set_cons_succ, cut_same, Option.some.injEq, exists_eq_left', exists_eq_left, D.int.injEq, D.bl.injEq, D.tup.injEq, D.lst.injEq, D.ref.injEq, Cell.lst.injEq, Option.bind_some, Option.map_some, Bool.not_true, Bool.not_false, if_true, if_false, Bool.false_eq_true, reduceCtorEq, decide_true, decide_false, true_and, and_true, Prod.mk.injEq, and_self, String.reduceEq, Bool.or_false, Bool.false_or, Bool.or_true, Bool.true_or, Bool.and_true, Bool.true_and, Bool.and_false, Bool.false_and, reduceIte, beq_self_eq_true, pairT]
    have e2 : (List.replicate p.2.toNat [D.int p.1]).flatten = (List.replicate p.2.toNat p.1).map .int := by
      generalize p.2.toNat = q
      induction q with
      | zero => rfl
      | succ q ih => rw [List.replicate_succ, List.flatten_cons, ih, List.replicate_succ, List.map_cons]; rfl
    rw [e2]
    refine ⟨⟨by omega, Nat.le_trans (by simp; omega : _ ≤ 1000) (show 1000 ≤ 16777216 by decide), by omega⟩, lim40 (by simp; omega), lim40 (by simp; omega), some (.int p.1), some (.int p.2), ?_⟩
    rw [e, expand_app, expand_cons, expand_nil, List.append_nil, List.map_append]
  · rintro ρ m' ⟨y, z, rfl, rfl⟩
    rw [List.length_map, List.take_length]
    simp only [w_var, w_const, w_glob, w_op, w_nil, w_cons, w_tst, w_and, w_or, w_ife, w_chain, w_slc, w_lc, w_meth, w_meth2, w_ifs0, w_ifs1, w_over, w_range1, w_range2, w_enum, w_zip, w_expr, w_assign, w_par, w_aug, w_setIx, w_retE, w_retN, w_if, w_while, w_for, w_pass, w_brk, w_cont, w_bad, w_snil, w_scons, p_call, p_tup, p_mkT, p_mkLt, p_mkLf, p_lst, p_addI, p_addT, p_addS, p_addL, p_sub, p_mul, p_fdiv, p_mod, p_pow, p_neg, p_not, p_lt, p_le, p_gt, p_ge, p_isN, p_isnotN, p_isB, p_isnotB, p_eqI, p_neI, p_eqB, p_neB, p_len, p_lenL, p_lenC, p_ixC, p_ixT, p_ixL, p_ixR, p_max2, p_min2, p_abs, p_intI, p_intB, p_tupOf, p_listOf, p_sum, p_all, p_any, p_isI, p_isC, s_int, s_bl, s_tup, s_lst, s_str, s_non, s_ins, p_in, p_notin, t_bl, t_int, t_non, t_tup, t_lst, i_tup, i_lst, l_lst, ii_int, ii_bl, ii_tup, ii_lst, ii_str, ii_non, a_name, a_tup, a_nil, a_cons, sa_nil, sa_cons, i_at0, i_at1, i_at2, i_setR, i_ix30, i_ix31, i_ix32, i_lowI, i_lowB, i_lowN, i_lowT, p_eqT, p_neT, p_slT, p_slF, p_sl3, k_tup, k_lst, k_int, k_ins, p_app, i_isTt, i_isTl, i_isTr, l_len0, l_len1, l_len2, l_len3, l_len4, l_len5, l_len6, l_len7, l_len8, l_len9, l_len10, l_len11, l_len12, p_mulL, p_back, p_slLt, p_slLf, w_asgG, w_gName, w_gIx, w_gAttr, w_gTup, w_gNil, w_gCons, w_setAttr, p_neTP, p_eqTP, p_eqLI, p_neLI, i_recvI, Ok_ok, Ok_bad, OkS_ok, OkS_bad, OkS_then, onN_nx, onN_rt, onN_bk, onN_ct, onT_nx, onT_ct, onT_bk, onT_rt, onR_nx, onR_rt, Ok_ret, List.getElem?_cons_zero, List.getElem?_cons_succ, List.set_cons_zero, List.set_cons_succ, cut_same, Option.some.injEq, exists_eq_left', exists_eq_left, D.int.injEq, D.bl.injEq, D.tup.injEq, D.lst.injEq, D.ref.injEq, Cell.lst.injEq, Option.bind_some, Option.map_some, Bool.not_true, Bool.not_false, if_true, if_false, Bool.false_eq_true, reduceCtorEq, decide_true, decide_false, true_and, and_true, Prod.mk.injEq, and_self, String.reduceEq, Bool.or_false, Bool.false_or, Bool.or_true, Bool.true_or, Bool.and_true, Bool.true_and, Bool.and_false, Bool.false_and, reduceIte, beq_self_eq_true]
theorem s__law_cl_places (k : Nat) (ns xs : List Int) (m : Mem) (h0 : ns.length ≤ 1000) (h : xs.length ≤ 1000) (h1 : ∀ n ∈ ns, 1 ≤ n ∧ Sm n = true) : callN P (k+1) 28 [.tup (ns.map .int), .lst (xs.map .int)] m = .ok (.lst ((ns.map fun s => (xs.map (· / s)).sum).map .int), m) := eq_of <| by
  rw [u28]
  simp only [b28, w_var, w_const, w_glob, w_op, w_nil, w_cons, w_tst, w_and, w_or, w_ife, w_chain, w_slc, w_lc, w_meth, w_meth2, w_ifs0, w_ifs1, w_over, w_range1, w_range2, w_enum, w_zip, w_expr, w_assign, w_par, w_aug, w_setIx, w_retE, w_retN, w_if, w_while, w_for, w_pass, w_brk, w_cont, w_bad, w_snil, w_scons, p_call, p_tup, p_mkT, p_mkLt, p_mkLf, p_lst, p_addI, p_addT, p_addS, p_addL, p_sub, p_mul, p_fdiv, p_mod, p_pow, p_neg, p_not, p_lt, p_le, p_gt, p_ge, p_isN, p_isnotN, p_isB, p_isnotB, p_eqI, p_neI, p_eqB, p_neB, p_len, p_lenL, p_lenC, p_ixC, p_ixT, p_ixL, p_ixR, p_max2, p_min2, p_abs, p_intI, p_intB, p_tupOf, p_listOf, p_sum, p_all, p_any, p_isI, p_isC, s_int, s_bl, s_tup, s_lst, s_str, s_non, s_ins, p_in, p_notin, t_bl, t_int, t_non, t_tup, t_lst, i_tup, i_lst, l_lst, ii_int, ii_bl, ii_tup, ii_lst, ii_str, ii_non, a_name, a_tup, a_nil, a_cons, sa_nil, sa_cons, i_at0, i_at1, i_at2, i_setR, i_ix30, i_ix31, i_ix32, i_lowI, i_lowB, i_lowN, i_lowT, p_eqT, p_neT, p_slT, p_slF, p_sl3, k_tup, k_lst, k_int, k_ins, p_app, i_isTt, i_isTl, i_isTr, l_len0, l_len1, l_len2, l_len3, l_len4, l_len5, l_len6, l_len7, l_len8, l_len9, l_len10, l_len11, l_len12, p_mulL, p_back, p_slLt, p_slLf, w_asgG, w_gName, w_gIx, w_gAttr, w_gTup, w_gNil, w_gCons, w_setAttr, p_neTP, p_eqTP, p_eqLI, p_neLI, i_recvI, Ok_ok, Ok_bad, OkS_ok, OkS_bad, OkS_then, onN_nx, onN_rt, onN_bk, onN_ct, onT_nx, onT_ct, onT_bk, onT_rt, onR_nx, onR_rt, Ok_ret, List.getElem?_cons_zero, List.getElem?_cons_succ, List.set_cons_zero, List.set_cons_succ, cut_same, Option.some.injEq, exists_eq_left', exists_eq_left, D.int.injEq, D.bl.injEq, D.tup.injEq, D.lst.injEq, D.ref.injEq, Cell.lst.injEq, Option.bind_some, Option.map_some, Bool.not_true, Bool.not_false, if_true, if_false, Bool.false_eq_true, reduceCtorEq, decide_true, decide_false, true_and, and_true, Prod.mk.injEq, and_self, String.reduceEq, Bool.or_false, Bool.false_or, Bool.or_true, Bool.true_or, Bool.and_true, Bool.true_and, Bool.and_false, Bool.false_and, reduceIte, beq_self_eq_true, List.length_map]
  refine ⟨lim40 h0, lc_map D.int (fun s => .int (xs.map (· / s)).sum) rfl (fun _ => rfl) (fun s hs => ⟨_, rfl, ?_⟩) ?_⟩
  · simp only [w_var, w_const, w_glob, w_op, w_nil, w_cons, w_tst, w_and, w_or, w_ife, w_chain, w_slc, w_lc, w_meth, w_meth2, w_ifs0, w_ifs1, w_over, w_range1, w_range2, w_enum, w_zip, w_expr, w_assign, w_par, w_aug, w_setIx, w_retE, w_retN, w_if, w_while, w_for, w_pass, w_brk, w_cont, w_bad, w_snil, w_scons, p_call, p_tup, p_mkT, p_mkLt, p_mkLf, p_lst, p_addI, p_addT, p_addS, p_addL, p_sub, p_mul, p_fdiv, p_mod, p_pow, p_neg, p_not, p_lt, p_le, p_gt, p_ge, p_isN, p_isnotN, p_isB, p_isnotB, p_eqI, p_neI, p_eqB, p_neB, p_len, p_lenL, p_lenC, p_ixC, p_ixT, p_ixL, p_ixR, p_max2, p_min2, p_abs, p_intI, p_intB, p_tupOf, p_listOf, p_sum, p_all, p_any, p_isI, p_isC, s_int, s_bl, s_tup, s_lst, s_str, s_non, s_ins, p_in, p_notin, t_bl, t_int, t_non, t_tup, t_lst, i_tup, i_lst, l_lst, ii_int, ii_bl, ii_tup, ii_lst, ii_str, ii_non, a_name, a_tup, a_nil, a_cons, sa_nil, sa_cons, i_at0, i_at1, i_at2, i_setR, i_ix30, i_ix31, i_ix32, i_lowI, i_lowB, i_lowN, i_lowT, p_eqT, p_neT, p_slT, p_slF, p_sl3, k_tup, k_lst, k_int, k_ins, p_app, i_isTt, i_isTl, i_isTr, l_len0, l_len1, l_len2, l_len3, l_len4, l_len5, l_len6, l_len7, l_len8, l_len9, l_len10, l_len11, l_len12, p_mulL, p_back, p_slLt, p_slLf, w_asgG, w_gName, w_gIx, w_gAttr, w_gTup, w_gNil, w_gCons, w_setAttr, p_neTP, p_eqTP, p_eqLI, p_neLI, i_recvI, Ok_ok, Ok_bad, OkS_ok, OkS_bad, OkS_then, onN_nx, onN_rt, onN_bk, onN_ct, onT_nx, onT_ct, onT_bk, onT_rt, onR_nx, onR_rt, Ok_ret, List.getElem?_cons_zero, List.getElem?_cons_succ, List.set_cons_zero, List.set_cons_succ, cut_same, Option.some.injEq, exists_eq_left', exists_eq_left, D.int.injEq, D.bl.injEq, D.tup.injEq, D.lst.injEq, D.ref.injEq, Cell.lst.injEq, Option.bind_some, Option.map_some, Bool.not_true, Bool.not_false, if_true, if_false, Bool.false_eq_true, reduceCtorEq, decide_true, decide_false, true_and, and_true, Prod.mk.injEq, and_self, String.reduceEq, Bool.or_false, Bool.false_or, Bool.or_true, Bool.true_or, Bool.and_true, Bool.true_and, Bool.and_false, Bool.false_and, reduceIte, beq_self_eq_true, wipeE, List.length_map]
    refine ⟨lim40 h, lc_map D.int (fun x => .int (x / s)) rfl (fun _ => rfl) (fun p hp => ⟨_, rfl, ?_⟩) ?_⟩
    · have hs' := h1 s hs
      have e1 : 0 < s := by omega
      simp only [w_var, w_const, w_glob, w_op, w_nil, w_cons, w_tst, w_and, w_or, w_ife, w_chain, w_slc, w_lc, w_meth, w_meth2, w_ifs0, w_ifs1, w_over, w_range1, w_range2, w_enum, w_zip, w_expr, w_assign, w_par, w_aug, w_setIx, w_retE, w_retN, w_if, w_while, w_for, w_pass, w_brk, w_cont, w_bad, w_snil, w_scons, p_call, p_tup, p_mkT, p_mkLt, p_mkLf, p_lst, p_addI, p_addT, p_addS, p_addL, p_sub, p_mul, p_fdiv, p_mod, p_pow, p_neg, p_not, p_lt, p_le, p_gt, p_ge, p_isN, p_isnotN, p_isB, p_isnotB, p_eqI, p_neI, p_eqB, p_neB, p_len, p_lenL, p_lenC, p_ixC, p_ixT, p_ixL, p_ixR, p_max2, p_min2, p_abs, p_intI, p_intB, p_tupOf, p_listOf, p_sum, p_all, p_any, p_isI, p_isC, s_int, s_bl, s_tup, s_lst, s_str, s_non, s_ins, p_in, p_notin, t_bl, t_int, t_non, t_tup, t_lst, i_tup, i_lst, l_lst, ii_int, ii_bl, ii_tup, ii_lst, ii_str, ii_non, a_name, a_tup, a_nil, a_cons, sa_nil, sa_cons, i_at0, i_at1, i_at2, i_setR, i_ix30, i_ix31, i_ix32, i_lowI, i_lowB, i_lowN, i_lowT, p_eqT, p_neT, p_slT, p_slF, p_sl3, k_tup, k_lst, k_int, k_ins, p_app, i_isTt, i_isTl, i_isTr, l_len0, l_len1, l_len2, l_len3, l_len4, l_len5, l_len6, l_len7, l_len8, l_len9, l_len10, l_len11, l_len12, p_mulL, p_back, p_slLt, p_slLf, w_asgG, w_gName, w_gIx, w_gAttr, w_gTup, w_gNil, w_gCons, w_setAttr, p_neTP, p_eqTP, p_eqLI, p_neLI, i_recvI, Ok_ok, Ok_bad, OkS_ok, OkS_bad, OkS_then, onN_nx, onN_rt, onN_bk, onN_ct, onT_nx, onT_ct, onT_bk, onT_rt, onR_nx, onR_rt, Ok_ret, List.getElem?_cons_zero, List.getElem?_cons_succ, List.set_cons_zero, List.set_cons_succ, cut_same, Option.some.injEq, exists_eq_left', exists_eq_left, D.int.injEq, D.bl.injEq, D.tup.injEq, D.lst.injEq, D.ref.injEq, Cell.lst.injEq, Option.bind_some, Option.map_some, Bool.not_true, Bool.not_false, if_true, if_false, Bool.false_eq_true, reduceCtorEq, decide_true, decide_false, true_and, and_true, Prod.mk.injEq, and_self, String.reduceEq, Bool.or_false, Bool.false_or, Bool.or_true, Bool.true_or, Bool.and_true, Bool.true_and, Bool.and_false, Bool.false_and, reduceIte, beq_self_eq_true, wipeE, e1, hs'.2]
    · simp only [w_var, w_const, w_glob, w_op, w_nil, w_cons, w_tst, w_and, w_or, w_ife, w_chain, w_slc, w_lc, w_meth, w_meth2, w_ifs0, w_ifs1, w_over, w_range1, w_range2, w_enum, w_zip, w_expr, w_assign, w_par, w_aug, w_setIx, w_retE, w_retN, w_if, w_while, w_for, w_pass, w_brk, w_cont, w_bad, w_snil, w_scons, p_call, p_tup, p_mkT, p_mkLt, p_mkLf, p_lst, p_addI, p_addT, p_addS, p_addL, p_sub, p_mul, p_fdiv, p_mod, p_pow, p_neg, p_not, p_lt, p_le, p_gt, p_ge, p_isN, p_isnotN, p_isB, p_isnotB, p_eqI, p_neI, p_eqB, p_neB, p_len, p_lenL, p_lenC, p_ixC, p_ixT, p_ixL, p_ixR, p_max2, p_min2, p_abs, p_intI, p_intB, p_tupOf, p_listOf, p_sum, p_all, p_any, p_isI, p_isC, s_int, s_bl, s_tup, s_lst, s_str, s_non, s_ins, p_in, p_notin, t_bl, t_int, t_non, t_tup, t_lst, i_tup, i_lst, l_lst, ii_int, ii_bl, ii_tup, ii_lst, ii_str, ii_non, a_name, a_tup, a_nil, a_cons, sa_nil, sa_cons, i_at0, i_at1, i_at2, i_setR, i_ix30, i_ix31, i_ix32, i_lowI, i_lowB, i_lowN, i_lowT, p_eqT, p_neT, p_slT, p_slF, p_sl3, k_tup, k_lst, k_int, k_ins, p_app, i_isTt, i_isTl, i_isTr, l_len0, l_len1, l_len2, l_len3, l_len4, l_len5, l_len6, l_len7, l_len8, l_len9, l_len10, l_len11, l_len12, p_mulL, p_back, p_slLt, p_slLf, w_asgG, w_gName, w_gIx, w_gAttr, w_gTup, w_gNil, w_gCons, w_setAttr, p_neTP, p_eqTP, p_eqLI, p_neLI, i_recvI, Ok_ok, Ok_bad, OkS_ok, OkS_bad, OkS_then, onN_nx, onN_rt, onN_bk, onN_ct, onT_nx, onT_ct, onT_bk, onT_rt, onR_nx, onR_rt, Ok_ret, List.getElem?_cons_zero, List.getElem?_cons_succ, List.set_cons_zero, List.set_cons_succ, cut_same, Option.some.injEq, exists_eq_left', exists_eq_left, D.int.injEq, D.bl.injEq, D.tup.injEq, D.lst.injEq, D.ref.injEq, Cell.lst.injEq, Option.bind_some, Option.map_some, Bool.not_true, Bool.not_false, if_true, if_false, Bool.false_eq_true, reduceCtorEq, decide_true, decide_false, true_and, and_true, Prod.mk.injEq, and_self, String.reduceEq, Bool.or_false, Bool.false_or, Bool.or_true, Bool.true_or, Bool.and_true, Bool.true_and, Bool.and_false, Bool.false_and, reduceIte, beq_self_eq_true, List.length_map, intsD_mapF]
      exact lim40 h
  · simp only [w_var, w_const, w_glob, w_op, w_nil, w_cons, w_tst, w_and, w_or, w_ife, w_chain, w_slc, w_lc, w_meth, w_meth2, w_ifs0, w_ifs1, w_over, w_range1, w_range2, w_enum, w_zip, w_expr, w_assign, w_par, w_aug, w_setIx, w_retE, w_retN, w_if, w_while, w_for, w_pass, w_brk, w_cont, w_bad, w_snil, w_scons, p_call, p_tup, p_mkT, p_mkLt, p_mkLf, p_lst, p_addI, p_addT, p_addS, p_addL, p_sub, p_mul, p_fdiv, p_mod, p_pow, p_neg, p_not, p_lt, p_le, p_gt, p_ge, p_isN, p_isnotN, p_isB, p_isnotB, p_eqI, p_neI, p_eqB, p_neB, p_len, p_lenL, p_lenC, p_ixC, p_ixT, p_ixL, p_ixR, p_max2, p_min2, p_abs, p_intI, p_intB, p_tupOf, p_listOf, p_sum, p_all, p_any, p_isI, p_isC, s_int, s_bl, s_tup, s_lst, s_str, s_non, s_ins, p_in, p_notin, t_bl, t_int, t_non, t_tup, t_lst, i_tup, i_lst, l_lst, ii_int, ii_bl, ii_tup, ii_lst, ii_str, ii_non, a_name, a_tup, a_nil, a_cons, sa_nil, sa_cons, i_at0, i_at1, i_at2, i_setR, i_ix30, i_ix31, i_ix32, i_lowI, i_lowB, i_lowN, i_lowT, p_eqT, p_neT, p_slT, p_slF, p_sl3, k_tup, k_lst, k_int, k_ins, p_app, i_isTt, i_isTl, i_isTr, l_len0, l_len1, l_len2, l_len3, l_len4, l_len5, l_len6, l_len7, l_len8, l_len9, l_len10, l_len11, l_len12, p_mulL, p_back, p_slLt, p_slLf, w_asgG, w_gName, w_gIx, w_gAttr, w_gTup, w_gNil, w_gCons, w_setAttr, p_neTP, p_eqTP, p_eqLI, p_neLI, i_recvI, Ok_ok, Ok_bad, OkS_ok, OkS_bad, OkS_then, onN_nx, onN_rt, onN_bk, onN_ct, onT_nx, onT_ct, onT_bk, onT_rt, onR_nx, onR_rt, Ok_ret, List.getElem?_cons_zero, List.getElem?_cons_succ, List.set_cons_zero, List.set_cons_succ, cut_same, Option.some.injEq, exists_eq_left', exists_eq_left, D.int.injEq, D.bl.injEq, D.tup.injEq, D.lst.injEq, D.ref.injEq, Cell.lst.injEq, Option.bind_some, Option.map_some, Bool.not_true, Bool.not_false, if_true, if_false, Bool.false_eq_true, reduceCtorEq, decide_true, decide_false, true_and, and_true, Prod.mk.injEq, and_self, String.reduceEq, Bool.or_false, Bool.false_or, Bool.or_true, Bool.true_or, Bool.and_true, Bool.true_and, Bool.and_false, Bool.false_and, reduceIte, beq_self_eq_true, List.length_map, List.map_map]
    exact ⟨lim40 h0, rfl⟩
theorem s__law_rows (k : Nat) (xs : List Int) (m : Mem) (h : xs.length ≤ 1000) : callN P (k+2) 29 [.lst (xs.map .int)] m = .ok (.tup ((rle xs).map pairT), m) := eq_of <| by
  rw [u29]
  simp only [b29, w_var, w_const, w_glob, w_op, w_nil, w_cons, w_tst, w_and, w_or, w_ife, w_chain, w_slc, w_lc, w_meth, w_meth2, w_ifs0, w_ifs1, w_over, w_range1, w_range2, w_enum, w_zip, w_expr, w_assign, w_par, w_aug, w_setIx, w_retE, w_retN, w_if, w_while, w_for, w_pass, w_brk, w_cont, w_bad, w_snil, w_scons, p_call, p_tup, p_mkT, p_mkLt, p_mkLf, p_lst, p_addI, p_addT, p_addS, p_addL, p_sub, p_mul, p_fdiv, p_mod, p_pow, p_neg, p_not, p_lt, p_le, p_gt, p_ge, p_isN, p_isnotN, p_isB, p_isnotB, p_eqI, p_neI, p_eqB, p_neB, p_len, p_lenL, p_lenC, p_ixC, p_ixT, p_ixL, p_ixR, p_max2, p_min2, p_abs, p_intI, p_intB, p_tupOf, p_listOf, p_sum, p_all, p_any, p_isI, p_isC, s_int, s_bl, s_tup, s_lst, s_str, s_non, s_ins, p_in, p_notin, t_bl, t_int, t_non, t_tup, t_lst, i_tup, i_lst, l_lst, ii_int, ii_bl, ii_tup, ii_lst, ii_str, ii_non, a_name, a_tup, a_nil, a_cons, sa_nil, sa_cons, i_at0, i_at1, i_at2, i_setR, i_ix30, i_ix31, i_ix32, i_lowI, i_lowB, i_lowN, i_lowT, p_eqT, p_neT, p_slT, p_slF, p_sl3, k_tup, k_lst, k_int, k_ins, p_app, i_isTt, i_isTl, i_isTr, l_len0, l_len1, l_len2, l_len3, l_len4, l_len5, l_len6, l_len7, l_len8, l_len9, l_len10, l_len11, l_len12, p_mulL, p_back, p_slLt, p_slLf, w_asgG, w_gName, w_gIx, w_gAttr, w_gTup, w_gNil, w_gCons, w_setAttr, p_neTP, p_eqTP, p_eqLI, p_neLI, i_recvI, Ok_ok, Ok_bad, OkS_ok, OkS_bad, OkS_then, onN_nx, onN_rt, onN_bk, onN_ct, onT_nx, onT_ct, onT_bk, onT_rt, onR_nx, onR_rt, Ok_ret, List.getElem?_cons_zero, List.getElem?_cons_succ, List.set_cons_zero, List.set_cons_succ, cut_same, Option.some.injEq, exists_eq_left', exists_eq_left, D.int.injEq, D.bl.injEq, D.tup.injEq, D.lst.injEq, D.ref.injEq, Cell.lst.injEq, Option.bind_some, Option.map_some, Bool.not_true, Bool.not_false, if_true, if_false, Bool.false_eq_true, reduceCtorEq, decide_true, decide_false, true_and, and_true, Prod.mk.injEq, and_self, String.reduceEq, Bool.or_false, Bool.false_or, Bool.or_true, Bool.true_or, Bool.and_true, Bool.true_and, Bool.and_false, Bool.false_and, reduceIte, beq_self_eq_true, List.length_map]
  refine ⟨lim40 h, lc_map D.int (fun x => pairT (x, 1)) rfl (fun _ => rfl) (fun x hx => ⟨_, rfl, ?_⟩) ?_⟩
  · simp only [w_var, w_const, w_glob, w_op, w_nil, w_cons, w_tst, w_and, w_or, w_ife, w_chain, w_slc, w_lc, w_meth, w_meth2, w_ifs0, w_ifs1, w_over, w_range1, w_range2, w_enum, w_zip, w_expr, w_assign, w_par, w_aug, w_setIx, w_retE, w_retN, w_if, w_while, w_for, w_pass, w_brk, w_cont, w_bad, w_snil, w_scons, p_call, p_tup, p_mkT, p_mkLt, p_mkLf, p_lst, p_addI, p_addT, p_addS, p_addL, p_sub, p_mul, p_fdiv, p_mod, p_pow, p_neg, p_not, p_lt, p_le, p_gt, p_ge, p_isN, p_isnotN, p_isB, p_isnotB, p_eqI, p_neI, p_eqB, p_neB, p_len, p_lenL, p_lenC, p_ixC, p_ixT, p_ixL, p_ixR, p_max2, p_min2, p_abs, p_intI, p_intB, p_tupOf, p_listOf, p_sum, p_all, p_any, p_isI, p_isC, s_int, s_bl, s_tup, s_lst, s_str, s_non, s_ins, p_in, p_notin, t_bl, t_int, t_non, t_tup, t_lst, i_tup, i_lst, l_lst, ii_int, ii_bl, ii_tup, ii_lst, ii_str, ii_non, a_name, a_tup, a_nil, a_cons, sa_nil, sa_cons, i_at0, i_at1, i_at2, i_setR, i_ix30, i_ix31, i_ix32, i_lowI, i_lowB, i_lowN, i_lowT, p_eqT, p_neT, p_slT, p_slF, p_sl3, k_tup, k_lst, k_int, k_ins, p_app, i_isTt, i_isTl, i_isTr, l_len0, l_len1, l_len2, l_len3, l_len4, l_len5, l_len6, l_len7, l_len8, l_len9, l_len10, l_len11, l_len12, p_mulL, p_back, p_slLt, p_slLf, w_asgG, w_gName, w_gIx, w_gAttr, w_gTup, w_gNil, w_gCons, w_setAttr, p_neTP, p_eqTP, p_eqLI, p_neLI, i_recvI, Ok_ok, Ok_bad, OkS_ok, OkS_bad, OkS_then, onN_nx, onN_rt, onN_bk, onN_ct, onT_nx, onT_ct, onT_bk, onT_rt, onR_nx, onR_rt, Ok_ret, List.getElem?_cons_zero, List.getElem?_cons_succ, List.set_cons_zero, List.set_cons_succ, cut_same, Option.some.injEq, exists_eq_left', exists_eq_left, D.int.injEq, D.bl.injEq, D.tup.injEq, D.lst.injEq, D.ref.injEq, Cell.lst.injEq, Option.bind_some, Option.map_some, Bool.not_true, Bool.not_false, if_true, if_false, Bool.false_eq_true, reduceCtorEq, decide_true, decide_false, true_and, and_true, Prod.mk.injEq, and_self, String.reduceEq, Bool.or_false, Bool.false_or, Bool.or_true, Bool.true_or, Bool.and_true, Bool.true_and, Bool.and_false, Bool.false_and, reduceIte, beq_self_eq_true, wipeE]
    rfl
  · have e : xs.map (fun x => pairT (x, 1)) = (xs.map fun x => (x, (1 : Int))).map pairT := by rw [List.map_map]; rfl
    simp only [e, w_var, w_const, w_glob, w_op, w_nil, w_cons, w_tst, w_and, w_or, w_ife, w_chain, w_slc, w_lc, w_meth, w_meth2, w_ifs0, w_ifs1, w_over, w_range1, w_range2, w_enum, w_zip, w_expr, w_assign, w_par, w_aug, w_setIx, w_retE, w_retN, w_if, w_while, w_for, w_pass, w_brk, w_cont, w_bad, w_snil, w_scons, p_call, p_tup, p_mkT, p_mkLt, p_mkLf, p_lst, p_addI, p_addT, p_addS, p_addL, p_sub, p_mul, p_fdiv, p_mod, p_pow, p_neg, p_not, p_lt, p_le, p_gt, p_ge, p_isN, p_isnotN, p_isB, p_isnotB, p_eqI, p_neI, p_eqB, p_neB, p_len, p_lenL, p_lenC, p_ixC, p_ixT, p_ixL, p_ixR, p_max2, p_min2, p_abs, p_intI, p_intB, p_tupOf, p_listOf, p_sum, p_all, p_any, p_isI, p_isC, s_int, s_bl, s_tup, s_lst, s_str, s_non, s_ins, p_in, p_notin, t_bl, t_int, t_non, t_tup, t_lst, i_tup, i_lst, l_lst, ii_int, ii_bl, ii_tup, ii_lst, ii_str, ii_non, a_name, a_tup, a_nil, a_cons, sa_nil, sa_cons, i_at0, i_at1, i_at2, i_setR, i_ix30, i_ix31, i_ix32, i_lowI, i_lowB, i_lowN, i_lowT, p_eqT, p_neT, p_slT, p_slF, p_sl3, k_tup, k_lst, k_int, k_ins, p_app, i_isTt, i_isTl, i_isTr, l_len0, l_len1, l_len2, l_len3, l_len4, l_len5, l_len6, l_len7, l_len8, l_len9, l_len10, l_len11, l_len12, p_mulL, p_back, p_slLt, p_slLf, w_asgG, w_gName, w_gIx, w_gAttr, w_gTup, w_gNil, w_gCons, w_setAttr, p_neTP, p_eqTP, p_eqLI, p_neLI, i_recvI, Ok_ok, Ok_bad, OkS_ok, OkS_bad, OkS_then, onN_nx, onN_rt, onN_bk, onN_ct, onT_nx, onT_ct, onT_bk, onT_rt, onR_nx, onR_rt, Ok_ret, List.getElem?_cons_zero, List.getElem?_cons_succ, List.set_cons_zero, List.set_cons_succ, cut_same, Option.some.injEq, exists_eq_left', exists_eq_left, D.int.injEq, D.bl.injEq, D.tup.injEq, D.lst.injEq, D.ref.injEq, Cell.lst.injEq, Option.bind_some, Option.map_some, Bool.not_true, Bool.not_false, if_true, if_false, Bool.false_eq_true, reduceCtorEq, decide_true, decide_false, true_and, and_true, Prod.mk.injEq, and_self, String.reduceEq, Bool.or_false, Bool.false_or, Bool.or_true, Bool.true_or, Bool.and_true, Bool.true_and, Bool.and_false, Bool.false_and, reduceIte, beq_self_eq_true, List.length_map, s__law_cl_lean k (xs.map fun x => (x, (1 : Int))) m (by rw [List.length_map]; exact h)]
    exact ⟨lim40 h, rfl⟩
end HT

namespace HT
open Rf L2
abbrev QR (m : Mem) (n : Nat) : Fl → Env → Mem → Prop := onR m fun r => ∃ a' b' c', r = (.bl true, m.set n (dc a' b' c'))
/-- what _law_right has drawn -/
structure RC (m : Mem) (n : Nat) (ns : List Int) (rs : Rws) : Prop where
  hm : ∃ a b c, m[n]? = some (dc a b c)
  sz : Sizes ns
  sb : ∀ z ∈ ns, z ≤ 375
  few : Few rs 5
  ne : rs ≠ []
abbrev Right (k : Nat) (m : Mem) (n : Nat) (t : CSs) (ns : List Int) (rs : Rws) (d6 d7 d8 d9 d10 d11 d12 d13 : Option D) : Prop := ∀ a b c, OkS (semSs P (callN P (k + 7)) t [some (.ref n), some (.tup (ns.map .int)), some (Sc ns), some (.tup (rs.map pairT)), some (St (leanR rs)), some (.lst ((expand rs).map .int)), d6, d7, d8, d9, d10, d11, d12, d13] (m.set n (dc a b c))) (QR m n)
section
variable {k n : Nat} {m : Mem} {ns : List Int} {rs : Rws} {d6 d7 d8 d9 d10 d11 d12 d13 : Option D}
theorem RC.ok (h : RC m n ns rs) : RowsOk rs := h.few.ok (by decide)
theorem RC.lok (h : RC m n ns rs) : RowsOk (leanR rs) := h.ok.lean
theorem RC.ex (h : RC m n ns rs) : expand (leanR rs) = expand rs := leanR_expand h.few.pos
theorem RC.xl (h : RC m n ns rs) : (expand rs).length ≤ 20 := h.few.xlen.1
theorem RC.xs (h : RC m n ns rs) : (expand rs).sum ≤ 15040 := h.few.xlen.2
theorem RC.ll (h : RC m n ns rs) : (leanR rs).length ≤ 5 := Nat.le_trans (leanR_len rs) h.few.len
theorem RC.hl (h : RC m n ns rs) : holdsR (leanR rs) = ((expand rs).length : Int) := by rw [holds_len (leanR_lean h.few.pos).pos, h.ex]
theorem RC.rl (h : RC m n ns rs) : rsum id (leanR rs) = (expand rs).sum := by rw [rsum_expand id (leanR_lean h.few.pos).pos, h.ex, List.map_id]
theorem RC.pl (h : RC m n ns rs) : placesR ns (leanR rs) = ns.map fun s => ((expand rs).map (· / s)).sum := by
  unfold placesR
  refine List.map_congr_left fun s _ => ?_
  rw [rsum_expand _ (leanR_lean h.few.pos).pos, h.ex]
theorem b60_big {i : Int} (h : i ≤ 1000000000) : i ≤ B60 := Int.le_trans h (by unfold B60; decide)
theorem rle_len (xs : List Int) : (rle xs).length ≤ xs.length := by
  have := leanR_len (xs.map fun x => (x, (1 : Int)))
  rwa [List.length_map] at this
/-- the last rows -/
theorem R18 (h : RC m n ns rs) : Right k m n b30t18 ns rs d6 d7 d8 d9 d10 d11 d12 d13 := by
  intro a b c
  have hx := h.xl
  have hxr : ((expand rs).reverse).length ≤ 1000 := by rw [List.length_reverse]; omega
  have hr : RowsOk (rle (expand rs).reverse) := by
    refine .of ?_ (rle_lean _).pos ?_ ?_
    · have := rle_len (expand rs).reverse
      rw [List.length_reverse] at this
      omega
    · rw [rle_expand]
      intro x hx
      exact (h.few.xall x (by simpa using hx)).1
    · rw [rle_expand, sum_perm (List.reverse_perm _)]
      have := h.xs
      exact b60_big (by omega)
  have e1 : decide (rle (expand rs).reverse = leanR rs) = decide ((expand rs).reverse = expand rs) := by
    rw [leanR_rle h.few.pos]
    exact decide_eq_decide.mpr rle_inj
  simp only [b30t18, w_var, w_const, w_glob, w_op, w_nil, w_cons, w_tst, w_and, w_or, w_ife, w_chain, w_slc, w_lc, w_meth, w_meth2, w_ifs0, w_ifs1, w_over, w_range1, w_range2, w_enum, w_zip, w_expr, w_assign, w_par, w_aug, w_setIx, w_retE, w_retN, w_if, w_while, w_for, w_pass, w_brk, w_cont, w_bad, w_snil, w_scons, p_call, p_tup, p_mkT, p_mkLt, p_mkLf, p_lst, p_addI, p_addT, p_addS, p_addL, p_sub, p_mul, p_fdiv, p_mod, p_pow, p_neg, p_not, p_lt, p_le, p_gt, p_ge, p_isN, p_isnotN, p_isB, p_isnotB, p_eqI, p_neI, p_eqB, p_neB, p_len, p_lenL, p_lenC, p_ixC, p_ixT, p_ixL, p_ixR, p_max2, p_min2, p_abs, p_intI, p_intB, p_tupOf, p_listOf, p_sum, p_all, p_any, p_isI, p_isC, s_int, s_bl, s_tup, s_lst, s_str, s_non, s_ins, p_in, p_notin, t_bl, t_int, t_non, t_tup, t_lst, i_tup, i_lst, l_lst, ii_int, ii_bl, ii_tup, ii_lst, ii_str, ii_non, a_name, a_tup, a_nil, a_cons, sa_nil, sa_cons, i_at0, i_at1, i_at2, i_setR, i_ix30, i_ix31, i_ix32, i_lowI, i_lowB, i_lowN, i_lowT, p_eqT, p_neT, p_slT, p_slF, p_sl3, k_tup, k_lst, k_int, k_ins, p_app, i_isTt, i_isTl, i_isTr, l_len0, l_len1, l_len2, l_len3, l_len4, l_len5, l_len6, l_len7, l_len8, l_len9, l_len10, l_len11, l_len12, p_mulL, p_back, p_slLt, p_slLf, w_asgG, w_gName, w_gIx, w_gAttr, w_gTup, w_gNil, w_gCons, w_setAttr, p_neTP, p_eqTP, p_eqLI, p_neLI, i_recvI, Ok_ok, Ok_bad, OkS_ok, OkS_bad, OkS_then, onN_nx, onN_rt, onN_bk, onN_ct, onT_nx, onT_ct, onT_bk, onT_rt, onR_nx, onR_rt, Ok_ret, List.getElem?_cons_zero, List.getElem?_cons_succ, List.set_cons_zero, List.set_cons_succ, cut_same, Option.some.injEq, exists_eq_left', exists_eq_left, D.int.injEq, D.bl.injEq, D.tup.injEq, D.lst.injEq, D.ref.injEq, Cell.lst.injEq, Option.bind_some, Option.map_some, Bool.not_true, Bool.not_false, if_true, if_false, Bool.false_eq_true, reduceCtorEq, decide_true, decide_false, true_and, and_true, Prod.mk.injEq, and_self, String.reduceEq, Bool.or_false, Bool.false_or, Bool.or_true, Bool.true_or, Bool.and_true, Bool.true_and, Bool.and_false, Bool.false_and, reduceIte, beq_self_eq_true, List.length_reverse, List.length_map, ← List.map_reverse, s__law_rows (k+5) _ _ hxr, Ok_of (new_stock (k+2) _ hr), leanR_self (rle_lean _), eq_stock, e1]
  exact ⟨lim40 (by omega), lim40 (by omega), _, _, _, cut_dc i_lowB⟩
theorem R17 (h : RC m n ns rs) : Right k m n b30t17 ns rs d6 d7 d8 d9 d10 d11 d12 (some (.tup (((expand rs).map fun x => (x, (1 : Int))).map pairT))) := by
  intro a b c
  have hx := h.xl
  have h1 : RowsOk ((expand rs).map fun x => (x, (1 : Int))) := by
    refine .of (by rw [List.length_map]; omega) (pos_ones _) ?_ ?_
    · rw [expand_ones]
      exact fun x hx => (h.few.xall x hx).1
    · rw [expand_ones]
      have := h.xs
      exact b60_big (by omega)
  have e1 : leanR ((expand rs).map fun x => (x, (1 : Int))) = leanR rs := (leanR_rle h.few.pos).symm
  have hp2 : Pos1 (rs ++ [((1 : Int), (1 : Int))]) := fun p hp => by
    rcases List.mem_append.mp hp with hp | hp
    · exact h.few.pos p hp
    · rw [List.mem_singleton] at hp
      subst hp
      exact Int.le_refl _
  have h2 : RowsOk (rs ++ [((1 : Int), (1 : Int))]) := by
    refine .of (by have := h.few.len; simp; omega) hp2 ?_ ?_
    · rw [expand_app]
      intro x hx
      rcases List.mem_append.mp hx with hx | hx
      · exact (h.few.xall x hx).1
      · simp [expand] at hx
        omega
    · rw [expand_app, List.sum_append]
      have := h.xs
      have e : (expand [((1 : Int), (1 : Int))]).sum = 1 := by decide
      exact b60_big (by omega)
  have e2 : ¬ leanR rs = leanR (rs ++ [((1 : Int), (1 : Int))]) := by
    rw [leanR_inj h.few.pos hp2, expand_app]
    intro e
    have := congrArg List.length e
    simp [expand] at this
  have e3 : rs.map pairT ++ [.tup [.int 1, .int 1]] = (rs ++ [((1 : Int), (1 : Int))]).map pairT := by rw [List.map_append]; rfl
  simp only [b30t17, w_var, w_const, w_glob, w_op, w_nil, w_cons, w_tst, w_and, w_or, w_ife, w_chain, w_slc, w_lc, w_meth, w_meth2, w_ifs0, w_ifs1, w_over, w_range1, w_range2, w_enum, w_zip, w_expr, w_assign, w_par, w_aug, w_setIx, w_retE, w_retN, w_if, w_while, w_for, w_pass, w_brk, w_cont, w_bad, w_snil, w_scons, p_call, p_tup, p_mkT, p_mkLt, p_mkLf, p_lst, p_addI, p_addT, p_addS, p_addL, p_sub, p_mul, p_fdiv, p_mod, p_pow, p_neg, p_not, p_lt, p_le, p_gt, p_ge, p_isN, p_isnotN, p_isB, p_isnotB, p_eqI, p_neI, p_eqB, p_neB, p_len, p_lenL, p_lenC, p_ixC, p_ixT, p_ixL, p_ixR, p_max2, p_min2, p_abs, p_intI, p_intB, p_tupOf, p_listOf, p_sum, p_all, p_any, p_isI, p_isC, s_int, s_bl, s_tup, s_lst, s_str, s_non, s_ins, p_in, p_notin, t_bl, t_int, t_non, t_tup, t_lst, i_tup, i_lst, l_lst, ii_int, ii_bl, ii_tup, ii_lst, ii_str, ii_non, a_name, a_tup, a_nil, a_cons, sa_nil, sa_cons, i_at0, i_at1, i_at2, i_setR, i_ix30, i_ix31, i_ix32, i_lowI, i_lowB, i_lowN, i_lowT, p_eqT, p_neT, p_slT, p_slF, p_sl3, k_tup, k_lst, k_int, k_ins, p_app, i_isTt, i_isTl, i_isTr, l_len0, l_len1, l_len2, l_len3, l_len4, l_len5, l_len6, l_len7, l_len8, l_len9, l_len10, l_len11, l_len12, p_mulL, p_back, p_slLt, p_slLf, w_asgG, w_gName, w_gIx, w_gAttr, w_gTup, w_gNil, w_gCons, w_setAttr, p_neTP, p_eqTP, p_eqLI, p_neLI, i_recvI, Ok_ok, Ok_bad, OkS_ok, OkS_bad, OkS_then, onN_nx, onN_rt, onN_bk, onN_ct, onT_nx, onT_ct, onT_bk, onT_rt, onR_nx, onR_rt, Ok_ret, List.getElem?_cons_zero, List.getElem?_cons_succ, List.set_cons_zero, List.set_cons_succ, cut_same, Option.some.injEq, exists_eq_left', exists_eq_left, D.int.injEq, D.bl.injEq, D.tup.injEq, D.lst.injEq, D.ref.injEq, Cell.lst.injEq, Option.bind_some, Option.map_some, Bool.not_true, Bool.not_false, if_true, if_false, Bool.false_eq_true, reduceCtorEq, decide_true, decide_false, true_and, and_true, Prod.mk.injEq, and_self, String.reduceEq, Bool.or_false, Bool.false_or, Bool.or_true, Bool.true_or, Bool.and_true, Bool.true_and, Bool.and_false, Bool.false_and, reduceIte, beq_self_eq_true, Ok_of (new_stock (k+2) _ h1), e1, ne_stock, e3, List.length_map, Ok_of (new_stock (k+2) _ h2), eq_stock, e2, eq_stock_tup]
  exact ⟨lim40 (by have := h2.len; omega), R18 h a b c⟩
theorem R16 (h : RC m n ns rs) : Right k m n b30t16 ns rs d6 d7 d8 d9 d10 d11 d12 d13 := by
  intro a b c
  have hx := h.xl
  simp only [b30t16, w_var, w_const, w_glob, w_op, w_nil, w_cons, w_tst, w_and, w_or, w_ife, w_chain, w_slc, w_lc, w_meth, w_meth2, w_ifs0, w_ifs1, w_over, w_range1, w_range2, w_enum, w_zip, w_expr, w_assign, w_par, w_aug, w_setIx, w_retE, w_retN, w_if, w_while, w_for, w_pass, w_brk, w_cont, w_bad, w_snil, w_scons, p_call, p_tup, p_mkT, p_mkLt, p_mkLf, p_lst, p_addI, p_addT, p_addS, p_addL, p_sub, p_mul, p_fdiv, p_mod, p_pow, p_neg, p_not, p_lt, p_le, p_gt, p_ge, p_isN, p_isnotN, p_isB, p_isnotB, p_eqI, p_neI, p_eqB, p_neB, p_len, p_lenL, p_lenC, p_ixC, p_ixT, p_ixL, p_ixR, p_max2, p_min2, p_abs, p_intI, p_intB, p_tupOf, p_listOf, p_sum, p_all, p_any, p_isI, p_isC, s_int, s_bl, s_tup, s_lst, s_str, s_non, s_ins, p_in, p_notin, t_bl, t_int, t_non, t_tup, t_lst, i_tup, i_lst, l_lst, ii_int, ii_bl, ii_tup, ii_lst, ii_str, ii_non, a_name, a_tup, a_nil, a_cons, sa_nil, sa_cons, i_at0, i_at1, i_at2, i_setR, i_ix30, i_ix31, i_ix32, i_lowI, i_lowB, i_lowN, i_lowT, p_eqT, p_neT, p_slT, p_slF, p_sl3, k_tup, k_lst, k_int, k_ins, p_app, i_isTt, i_isTl, i_isTr, l_len0, l_len1, l_len2, l_len3, l_len4, l_len5, l_len6, l_len7, l_len8, l_len9, l_len10, l_len11, l_len12, p_mulL, p_back, p_slLt, p_slLf, w_asgG, w_gName, w_gIx, w_gAttr, w_gTup, w_gNil, w_gCons, w_setAttr, p_neTP, p_eqTP, p_eqLI, p_neLI, i_recvI, Ok_ok, Ok_bad, OkS_ok, OkS_bad, OkS_then, onN_nx, onN_rt, onN_bk, onN_ct, onT_nx, onT_ct, onT_bk, onT_rt, onR_nx, onR_rt, Ok_ret, List.getElem?_cons_zero, List.getElem?_cons_succ, List.set_cons_zero, List.set_cons_succ, cut_same, Option.some.injEq, exists_eq_left', exists_eq_left, D.int.injEq, D.bl.injEq, D.tup.injEq, D.lst.injEq, D.ref.injEq, Cell.lst.injEq, Option.bind_some, Option.map_some, Bool.not_true, Bool.not_false, if_true, if_false, Bool.false_eq_true, reduceCtorEq, decide_true, decide_false, true_and, and_true, Prod.mk.injEq, and_self, String.reduceEq, Bool.or_false, Bool.false_or, Bool.or_true, Bool.true_or, Bool.and_true, Bool.true_and, Bool.and_false, Bool.false_and, reduceIte, beq_self_eq_true, List.length_map]
  refine ⟨lim40 (by omega), lc_map D.int (fun x => pairT (x, 1)) rfl (fun _ => rfl) (fun x hx => ⟨_, rfl, ?_⟩) ?_⟩
  · simp only [w_var, w_const, w_glob, w_op, w_nil, w_cons, w_tst, w_and, w_or, w_ife, w_chain, w_slc, w_lc, w_meth, w_meth2, w_ifs0, w_ifs1, w_over, w_range1, w_range2, w_enum, w_zip, w_expr, w_assign, w_par, w_aug, w_setIx, w_retE, w_retN, w_if, w_while, w_for, w_pass, w_brk, w_cont, w_bad, w_snil, w_scons, p_call, p_tup, p_mkT, p_mkLt, p_mkLf, p_lst, p_addI, p_addT, p_addS, p_addL, p_sub, p_mul, p_fdiv, p_mod, p_pow, p_neg, p_not, p_lt, p_le, p_gt, p_ge, p_isN, p_isnotN, p_isB, p_isnotB, p_eqI, p_neI, p_eqB, p_neB, p_len, p_lenL, p_lenC, p_ixC, p_ixT, p_ixL, p_ixR, p_max2, p_min2, p_abs, p_intI, p_intB, p_tupOf, p_listOf, p_sum, p_all, p_any, p_isI, p_isC, s_int, s_bl, s_tup, s_lst, s_str, s_non, s_ins, p_in, p_notin, t_bl, t_int, t_non, t_tup, t_lst, i_tup, i_lst, l_lst, ii_int, ii_bl, ii_tup, ii_lst, ii_str, ii_non, a_name, a_tup, a_nil, a_cons, sa_nil, sa_cons, i_at0, i_at1, i_at2, i_setR, i_ix30, i_ix31, i_ix32, i_lowI, i_lowB, i_lowN, i_lowT, p_eqT, p_neT, p_slT, p_slF, p_sl3, k_tup, k_lst, k_int, k_ins, p_app, i_isTt, i_isTl, i_isTr, l_len0, l_len1, l_len2, l_len3, l_len4, l_len5, l_len6, l_len7, l_len8, l_len9, l_len10, l_len11, l_len12, p_mulL, p_back, p_slLt, p_slLf, w_asgG, w_gName, w_gIx, w_gAttr, w_gTup, w_gNil, w_gCons, w_setAttr, p_neTP, p_eqTP, p_eqLI, p_neLI, i_recvI, Ok_ok, Ok_bad, OkS_ok, OkS_bad, OkS_then, onN_nx, onN_rt, onN_bk, onN_ct, onT_nx, onT_ct, onT_bk, onT_rt, onR_nx, onR_rt, Ok_ret, List.getElem?_cons_zero, List.getElem?_cons_succ, List.set_cons_zero, List.set_cons_succ, cut_same, Option.some.injEq, exists_eq_left', exists_eq_left, D.int.injEq, D.bl.injEq, D.tup.injEq, D.lst.injEq, D.ref.injEq, Cell.lst.injEq, Option.bind_some, Option.map_some, Bool.not_true, Bool.not_false, if_true, if_false, Bool.false_eq_true, reduceCtorEq, decide_true, decide_false, true_and, and_true, Prod.mk.injEq, and_self, String.reduceEq, Bool.or_false, Bool.false_or, Bool.or_true, Bool.true_or, Bool.and_true, Bool.true_and, Bool.and_false, Bool.false_and, reduceIte, beq_self_eq_true, wipeE]
    rfl
  · have e : (expand rs).map (fun x => pairT (x, 1)) = ((expand rs).map fun x => (x, (1 : Int))).map pairT := by rw [List.map_map]; rfl
    simp only [w_var, w_const, w_glob, w_op, w_nil, w_cons, w_tst, w_and, w_or, w_ife, w_chain, w_slc, w_lc, w_meth, w_meth2, w_ifs0, w_ifs1, w_over, w_range1, w_range2, w_enum, w_zip, w_expr, w_assign, w_par, w_aug, w_setIx, w_retE, w_retN, w_if, w_while, w_for, w_pass, w_brk, w_cont, w_bad, w_snil, w_scons, p_call, p_tup, p_mkT, p_mkLt, p_mkLf, p_lst, p_addI, p_addT, p_addS, p_addL, p_sub, p_mul, p_fdiv, p_mod, p_pow, p_neg, p_not, p_lt, p_le, p_gt, p_ge, p_isN, p_isnotN, p_isB, p_isnotB, p_eqI, p_neI, p_eqB, p_neB, p_len, p_lenL, p_lenC, p_ixC, p_ixT, p_ixL, p_ixR, p_max2, p_min2, p_abs, p_intI, p_intB, p_tupOf, p_listOf, p_sum, p_all, p_any, p_isI, p_isC, s_int, s_bl, s_tup, s_lst, s_str, s_non, s_ins, p_in, p_notin, t_bl, t_int, t_non, t_tup, t_lst, i_tup, i_lst, l_lst, ii_int, ii_bl, ii_tup, ii_lst, ii_str, ii_non, a_name, a_tup, a_nil, a_cons, sa_nil, sa_cons, i_at0, i_at1, i_at2, i_setR, i_ix30, i_ix31, i_ix32, i_lowI, i_lowB, i_lowN, i_lowT, p_eqT, p_neT, p_slT, p_slF, p_sl3, k_tup, k_lst, k_int, k_ins, p_app, i_isTt, i_isTl, i_isTr, l_len0, l_len1, l_len2, l_len3, l_len4, l_len5, l_len6, l_len7, l_len8, l_len9, l_len10, l_len11, l_len12, p_mulL, p_back, p_slLt, p_slLf, w_asgG, w_gName, w_gIx, w_gAttr, w_gTup, w_gNil, w_gCons, w_setAttr, p_neTP, p_eqTP, p_eqLI, p_neLI, i_recvI, Ok_ok, Ok_bad, OkS_ok, OkS_bad, OkS_then, onN_nx, onN_rt, onN_bk, onN_ct, onT_nx, onT_ct, onT_bk, onT_rt, onR_nx, onR_rt, Ok_ret, List.getElem?_cons_zero, List.getElem?_cons_succ, List.set_cons_zero, List.set_cons_succ, cut_same, Option.some.injEq, exists_eq_left', exists_eq_left, D.int.injEq, D.bl.injEq, D.tup.injEq, D.lst.injEq, D.ref.injEq, Cell.lst.injEq, Option.bind_some, Option.map_some, Bool.not_true, Bool.not_false, if_true, if_false, Bool.false_eq_true, reduceCtorEq, decide_true, decide_false, true_and, and_true, Prod.mk.injEq, and_self, String.reduceEq, Bool.or_false, Bool.false_or, Bool.or_true, Bool.true_or, Bool.and_true, Bool.true_and, Bool.and_false, Bool.false_and, reduceIte, beq_self_eq_true, e, List.length_map]
    exact ⟨lim40 (by omega), R17 h a b c⟩
theorem pl_pair (i j : Int) : pl 1 (.tup [.int i, .int j]) = true := by simp [pl, pls]
theorem R15 (h : RC m n ns rs) : Right k m n b30t15 ns rs d6 d7 d8 (some (.int 0)) d10 d11 d12 d13 := by
  intro a b c
  obtain ⟨_, _, _, hm⟩ := h.hm
  simp only [b30t15, w_var, w_const, w_glob, w_op, w_nil, w_cons, w_tst, w_and, w_or, w_ife, w_chain, w_slc, w_lc, w_meth, w_meth2, w_ifs0, w_ifs1, w_over, w_range1, w_range2, w_enum, w_zip, w_expr, w_assign, w_par, w_aug, w_setIx, w_retE, w_retN, w_if, w_while, w_for, w_pass, w_brk, w_cont, w_bad, w_snil, w_scons, p_call, p_tup, p_mkT, p_mkLt, p_mkLf, p_lst, p_addI, p_addT, p_addS, p_addL, p_sub, p_mul, p_fdiv, p_mod, p_pow, p_neg, p_not, p_lt, p_le, p_gt, p_ge, p_isN, p_isnotN, p_isB, p_isnotB, p_eqI, p_neI, p_eqB, p_neB, p_len, p_lenL, p_lenC, p_ixC, p_ixT, p_ixL, p_ixR, p_max2, p_min2, p_abs, p_intI, p_intB, p_tupOf, p_listOf, p_sum, p_all, p_any, p_isI, p_isC, s_int, s_bl, s_tup, s_lst, s_str, s_non, s_ins, p_in, p_notin, t_bl, t_int, t_non, t_tup, t_lst, i_tup, i_lst, l_lst, ii_int, ii_bl, ii_tup, ii_lst, ii_str, ii_non, a_name, a_tup, a_nil, a_cons, sa_nil, sa_cons, i_at0, i_at1, i_at2, i_setR, i_ix30, i_ix31, i_ix32, i_lowI, i_lowB, i_lowN, i_lowT, p_eqT, p_neT, p_slT, p_slF, p_sl3, k_tup, k_lst, k_int, k_ins, p_app, i_isTt, i_isTl, i_isTr, l_len0, l_len1, l_len2, l_len3, l_len4, l_len5, l_len6, l_len7, l_len8, l_len9, l_len10, l_len11, l_len12, p_mulL, p_back, p_slLt, p_slLf, w_asgG, w_gName, w_gIx, w_gAttr, w_gTup, w_gNil, w_gCons, w_setAttr, p_neTP, p_eqTP, p_eqLI, p_neLI, i_recvI, Ok_ok, Ok_bad, OkS_ok, OkS_bad, OkS_then, onN_nx, onN_rt, onN_bk, onN_ct, onT_nx, onT_ct, onT_bk, onT_rt, onR_nx, onR_rt, Ok_ret, List.getElem?_cons_zero, List.getElem?_cons_succ, List.set_cons_zero, List.set_cons_succ, cut_same, Option.some.injEq, exists_eq_left', exists_eq_left, D.int.injEq, D.bl.injEq, D.tup.injEq, D.lst.injEq, D.ref.injEq, Cell.lst.injEq, Option.bind_some, Option.map_some, Bool.not_true, Bool.not_false, if_true, if_false, Bool.false_eq_true, reduceCtorEq, decide_true, decide_false, true_and, and_true, Prod.mk.injEq, and_self, String.reduceEq, Bool.or_false, Bool.false_or, Bool.or_true, Bool.true_or, Bool.and_true, Bool.true_and, Bool.and_false, Bool.false_and, reduceIte, beq_self_eq_true]
  refine for_ok (fun i ρ m' => ∃ a b c y10 y11 y12, ρ = [some (.ref n), some (.tup (ns.map .int)), some (Sc ns), some (.tup (rs.map pairT)), some (St (leanR rs)), some (.lst ((expand rs).map .int)), d6, d7, d8, some (.int ((expand rs).take i).sum), y10, y11, y12, d13] ∧ m' = m.set n (dc a b c)) ⟨a, b, c, d10, d11, d12, rfl, rfl⟩ (fun _ _ _ _ => rfl) ?_ ?_
  · rintro i d ρ m' hd ⟨a1, b1, c1, y10, y11, y12, rfl, rfl⟩
    obtain ⟨x, hx, rfl⟩ := enum_get hd
    rw [List.getElem?_map, Option.map_eq_some_iff] at hx
    obtain ⟨x, hx, rfl⟩ := hx
    have hx1 := h.few.xall x (List.mem_of_getElem? hx)
    have e : (expand rs).take (i + 1) = (expand rs).take i ++ [x] := by rw [List.take_add_one, hx]; rfl
    refine ⟨_, rfl, ?_⟩
    simp only [b30x9, b30x9t1, Nat.zero_add, w_var, w_const, w_glob, w_op, w_nil, w_cons, w_tst, w_and, w_or, w_ife, w_chain, w_slc, w_lc, w_meth, w_meth2, w_ifs0, w_ifs1, w_over, w_range1, w_range2, w_enum, w_zip, w_expr, w_assign, w_par, w_aug, w_setIx, w_retE, w_retN, w_if, w_while, w_for, w_pass, w_brk, w_cont, w_bad, w_snil, w_scons, p_call, p_tup, p_mkT, p_mkLt, p_mkLf, p_lst, p_addI, p_addT, p_addS, p_addL, p_sub, p_mul, p_fdiv, p_mod, p_pow, p_neg, p_not, p_lt, p_le, p_gt, p_ge, p_isN, p_isnotN, p_isB, p_isnotB, p_eqI, p_neI, p_eqB, p_neB, p_len, p_lenL, p_lenC, p_ixC, p_ixT, p_ixL, p_ixR, p_max2, p_min2, p_abs, p_intI, p_intB, p_tupOf, p_listOf, p_sum, p_all, p_any, p_isI, p_isC, s_int, s_bl, s_tup, s_lst, s_str, s_non, s_ins, p_in, p_notin, t_bl, t_int, t_non, t_tup, t_lst, i_tup, i_lst, l_lst, ii_int, ii_bl, ii_tup, ii_lst, ii_str, ii_non, a_name, a_tup, a_nil, a_cons, sa_nil, sa_cons, i_at0, i_at1, i_at2, i_setR, i_ix30, i_ix31, i_ix32, i_lowI, i_lowB, i_lowN, i_lowT, p_eqT, p_neT, p_slT, p_slF, p_sl3, k_tup, k_lst, k_int, k_ins, p_app, i_isTt, i_isTl, i_isTr, l_len0, l_len1, l_len2, l_len3, l_len4, l_len5, l_len6, l_len7, l_len8, l_len9, l_len10, l_len11, l_len12, p_mulL, p_back, p_slLt, p_slLf, w_asgG, w_gName, w_gIx, w_gAttr, w_gTup, w_gNil, w_gCons, w_setAttr, p_neTP, p_eqTP, p_eqLI, p_neLI, i_recvI, Ok_ok, Ok_bad, OkS_ok, OkS_bad, OkS_then, onN_nx, onN_rt, onN_bk, onN_ct, onT_nx, onT_ct, onT_bk, onT_rt, onR_nx, onR_rt, Ok_ret, List.getElem?_cons_zero, List.getElem?_cons_succ, List.set_cons_zero, List.set_cons_succ, cut_same, Option.some.injEq, exists_eq_left', exists_eq_left, D.int.injEq, D.bl.injEq, D.tup.injEq, D.lst.injEq, D.ref.injEq, Cell.lst.injEq, Option.bind_some, Option.map_some, Bool.not_true, Bool.not_false, if_true, if_false, Bool.false_eq_true, reduceCtorEq, decide_true, decide_false, true_and, and_true, Prod.mk.injEq, and_self, String.reduceEq, Bool.or_false, Bool.false_or, Bool.or_true, Bool.true_or, Bool.and_true, Bool.true_and, Bool.and_false, Bool.false_and, reduceIte, beq_self_eq_true]
    refine (s_roll _ (at_set hm _) (by omega) (smallN (by omega) (by omega))).imp fun r ⟨v, a2, b2, c2, e', hv0, hv1⟩ => ?_
    subst e'
    simp only [w_var, w_const, w_glob, w_op, w_nil, w_cons, w_tst, w_and, w_or, w_ife, w_chain, w_slc, w_lc, w_meth, w_meth2, w_ifs0, w_ifs1, w_over, w_range1, w_range2, w_enum, w_zip, w_expr, w_assign, w_par, w_aug, w_setIx, w_retE, w_retN, w_if, w_while, w_for, w_pass, w_brk, w_cont, w_bad, w_snil, w_scons, p_call, p_tup, p_mkT, p_mkLt, p_mkLf, p_lst, p_addI, p_addT, p_addS, p_addL, p_sub, p_mul, p_fdiv, p_mod, p_pow, p_neg, p_not, p_lt, p_le, p_gt, p_ge, p_isN, p_isnotN, p_isB, p_isnotB, p_eqI, p_neI, p_eqB, p_neB, p_len, p_lenL, p_lenC, p_ixC, p_ixT, p_ixL, p_ixR, p_max2, p_min2, p_abs, p_intI, p_intB, p_tupOf, p_listOf, p_sum, p_all, p_any, p_isI, p_isC, s_int, s_bl, s_tup, s_lst, s_str, s_non, s_ins, p_in, p_notin, t_bl, t_int, t_non, t_tup, t_lst, i_tup, i_lst, l_lst, ii_int, ii_bl, ii_tup, ii_lst, ii_str, ii_non, a_name, a_tup, a_nil, a_cons, sa_nil, sa_cons, i_at0, i_at1, i_at2, i_setR, i_ix30, i_ix31, i_ix32, i_lowI, i_lowB, i_lowN, i_lowT, p_eqT, p_neT, p_slT, p_slF, p_sl3, k_tup, k_lst, k_int, k_ins, p_app, i_isTt, i_isTl, i_isTr, l_len0, l_len1, l_len2, l_len3, l_len4, l_len5, l_len6, l_len7, l_len8, l_len9, l_len10, l_len11, l_len12, p_mulL, p_back, p_slLt, p_slLf, w_asgG, w_gName, w_gIx, w_gAttr, w_gTup, w_gNil, w_gCons, w_setAttr, p_neTP, p_eqTP, p_eqLI, p_neLI, i_recvI, Ok_ok, Ok_bad, OkS_ok, OkS_bad, OkS_then, onN_nx, onN_rt, onN_bk, onN_ct, onT_nx, onT_ct, onT_bk, onT_rt, onR_nx, onR_rt, Ok_ret, List.getElem?_cons_zero, List.getElem?_cons_succ, List.set_cons_zero, List.set_cons_succ, cut_same, Option.some.injEq, exists_eq_left', exists_eq_left, D.int.injEq, D.bl.injEq, D.tup.injEq, D.lst.injEq, D.ref.injEq, Cell.lst.injEq, Option.bind_some, Option.map_some, Bool.not_true, Bool.not_false, if_true, if_false, Bool.false_eq_true, reduceCtorEq, decide_true, decide_false, true_and, and_true, Prod.mk.injEq, and_self, String.reduceEq, Bool.or_false, Bool.false_or, Bool.or_true, Bool.true_or, Bool.and_true, Bool.true_and, Bool.and_false, Bool.false_and, reduceIte, beq_self_eq_true, List.set_set]
    refine for_ok (fun j ρ m' => ∃ y12, ρ = [some (.ref n), some (.tup (ns.map .int)), some (Sc ns), some (.tup (rs.map pairT)), some (St (leanR rs)), some (.lst ((expand rs).map .int)), d6, d7, d8, some (.int ((expand rs).take i).sum), some (.int i), some (.int x), y12, d13] ∧ m' = m.set n (dc a2 b2 c2)) ⟨y12, rfl, rfl⟩ (fun _ _ _ _ => rfl) ?_ ?_
    · rintro j d ρ m' hd ⟨y, rfl, rfl⟩
      obtain ⟨u, rfl, hu0, hu1⟩ : ∃ u, d = .int u ∧ 0 ≤ u ∧ u < x := by
        have := List.mem_of_getElem? hd
        simp only [List.mem_cons, List.not_mem_nil, or_false] at this
        rcases this with rfl | rfl | rfl
        · exact ⟨_, rfl, by omega, by omega⟩
        · exact ⟨_, rfl, by omega, by omega⟩
        · exact ⟨_, rfl, by omega, by omega⟩
      have ht : At (expand (leanR rs)) i u (((expand rs).take i).sum + u) := by
        rw [h.ex]
        exact ⟨⟨x, hx, hu1⟩, hu0, rfl⟩
      refine ⟨_, rfl, ?_⟩
      simp only [b30x10, w_var, w_const, w_glob, w_op, w_nil, w_cons, w_tst, w_and, w_or, w_ife, w_chain, w_slc, w_lc, w_meth, w_meth2, w_ifs0, w_ifs1, w_over, w_range1, w_range2, w_enum, w_zip, w_expr, w_assign, w_par, w_aug, w_setIx, w_retE, w_retN, w_if, w_while, w_for, w_pass, w_brk, w_cont, w_bad, w_snil, w_scons, p_call, p_tup, p_mkT, p_mkLt, p_mkLf, p_lst, p_addI, p_addT, p_addS, p_addL, p_sub, p_mul, p_fdiv, p_mod, p_pow, p_neg, p_not, p_lt, p_le, p_gt, p_ge, p_isN, p_isnotN, p_isB, p_isnotB, p_eqI, p_neI, p_eqB, p_neB, p_len, p_lenL, p_lenC, p_ixC, p_ixT, p_ixL, p_ixR, p_max2, p_min2, p_abs, p_intI, p_intB, p_tupOf, p_listOf, p_sum, p_all, p_any, p_isI, p_isC, s_int, s_bl, s_tup, s_lst, s_str, s_non, s_ins, p_in, p_notin, t_bl, t_int, t_non, t_tup, t_lst, i_tup, i_lst, l_lst, ii_int, ii_bl, ii_tup, ii_lst, ii_str, ii_non, a_name, a_tup, a_nil, a_cons, sa_nil, sa_cons, i_at0, i_at1, i_at2, i_setR, i_ix30, i_ix31, i_ix32, i_lowI, i_lowB, i_lowN, i_lowT, p_eqT, p_neT, p_slT, p_slF, p_sl3, k_tup, k_lst, k_int, k_ins, p_app, i_isTt, i_isTl, i_isTr, l_len0, l_len1, l_len2, l_len3, l_len4, l_len5, l_len6, l_len7, l_len8, l_len9, l_len10, l_len11, l_len12, p_mulL, p_back, p_slLt, p_slLf, w_asgG, w_gName, w_gIx, w_gAttr, w_gTup, w_gNil, w_gCons, w_setAttr, p_neTP, p_eqTP, p_eqLI, p_neLI, i_recvI, Ok_ok, Ok_bad, OkS_ok, OkS_bad, OkS_then, onN_nx, onN_rt, onN_bk, onN_ct, onT_nx, onT_ct, onT_bk, onT_rt, onR_nx, onR_rt, Ok_ret, List.getElem?_cons_zero, List.getElem?_cons_succ, List.set_cons_zero, List.set_cons_succ, cut_same, Option.some.injEq, exists_eq_left', exists_eq_left, D.int.injEq, D.bl.injEq, D.tup.injEq, D.lst.injEq, D.ref.injEq, Cell.lst.injEq, Option.bind_some, Option.map_some, Bool.not_true, Bool.not_false, if_true, if_false, Bool.false_eq_true, reduceCtorEq, decide_true, decide_false, true_and, and_true, Prod.mk.injEq, and_self, String.reduceEq, Bool.or_false, Bool.false_or, Bool.or_true, Bool.true_or, Bool.and_true, Bool.true_and, Bool.and_false, Bool.false_and, reduceIte, beq_self_eq_true, s_hold_at (k+3) h.lok ht, p_neP (pl_pair _ _) (pl_pair _ _)]
      exact ⟨_, rfl⟩
    · rintro ρ m' ⟨y, rfl, rfl⟩
      have es : ((expand rs).take (i + 1)).sum = ((expand rs).take i).sum + x := by rw [e, List.sum_append]; simp
      simp only [w_var, w_const, w_glob, w_op, w_nil, w_cons, w_tst, w_and, w_or, w_ife, w_chain, w_slc, w_lc, w_meth, w_meth2, w_ifs0, w_ifs1, w_over, w_range1, w_range2, w_enum, w_zip, w_expr, w_assign, w_par, w_aug, w_setIx, w_retE, w_retN, w_if, w_while, w_for, w_pass, w_brk, w_cont, w_bad, w_snil, w_scons, p_call, p_tup, p_mkT, p_mkLt, p_mkLf, p_lst, p_addI, p_addT, p_addS, p_addL, p_sub, p_mul, p_fdiv, p_mod, p_pow, p_neg, p_not, p_lt, p_le, p_gt, p_ge, p_isN, p_isnotN, p_isB, p_isnotB, p_eqI, p_neI, p_eqB, p_neB, p_len, p_lenL, p_lenC, p_ixC, p_ixT, p_ixL, p_ixR, p_max2, p_min2, p_abs, p_intI, p_intB, p_tupOf, p_listOf, p_sum, p_all, p_any, p_isI, p_isC, s_int, s_bl, s_tup, s_lst, s_str, s_non, s_ins, p_in, p_notin, t_bl, t_int, t_non, t_tup, t_lst, i_tup, i_lst, l_lst, ii_int, ii_bl, ii_tup, ii_lst, ii_str, ii_non, a_name, a_tup, a_nil, a_cons, sa_nil, sa_cons, i_at0, i_at1, i_at2, i_setR, i_ix30, i_ix31, i_ix32, i_lowI, i_lowB, i_lowN, i_lowT, p_eqT, p_neT, p_slT, p_slF, p_sl3, k_tup, k_lst, k_int, k_ins, p_app, i_isTt, i_isTl, i_isTr, l_len0, l_len1, l_len2, l_len3, l_len4, l_len5, l_len6, l_len7, l_len8, l_len9, l_len10, l_len11, l_len12, p_mulL, p_back, p_slLt, p_slLf, w_asgG, w_gName, w_gIx, w_gAttr, w_gTup, w_gNil, w_gCons, w_setAttr, p_neTP, p_eqTP, p_eqLI, p_neLI, i_recvI, Ok_ok, Ok_bad, OkS_ok, OkS_bad, OkS_then, onN_nx, onN_rt, onN_bk, onN_ct, onT_nx, onT_ct, onT_bk, onT_rt, onR_nx, onR_rt, Ok_ret, List.getElem?_cons_zero, List.getElem?_cons_succ, List.set_cons_zero, List.set_cons_succ, cut_same, Option.some.injEq, exists_eq_left', exists_eq_left, D.int.injEq, D.bl.injEq, D.tup.injEq, D.lst.injEq, D.ref.injEq, Cell.lst.injEq, Option.bind_some, Option.map_some, Bool.not_true, Bool.not_false, if_true, if_false, Bool.false_eq_true, reduceCtorEq, decide_true, decide_false, true_and, and_true, Prod.mk.injEq, and_self, String.reduceEq, Bool.or_false, Bool.false_or, Bool.or_true, Bool.true_or, Bool.and_true, Bool.true_and, Bool.and_false, Bool.false_and, reduceIte, beq_self_eq_true, es]
      exact ⟨a2, b2, c2, _, _, _, rfl, rfl⟩
  · rintro ρ m' ⟨a1, b1, c1, y10, y11, y12, rfl, rfl⟩
    exact R16 h a1 b1 c1
theorem R14 (h : RC m n ns rs) : Right k m n b30t14 ns rs d6 d7 d8 d9 d10 d11 d12 d13 := by
  intro a b c
  simp only [b30t14, w_var, w_const, w_glob, w_op, w_nil, w_cons, w_tst, w_and, w_or, w_ife, w_chain, w_slc, w_lc, w_meth, w_meth2, w_ifs0, w_ifs1, w_over, w_range1, w_range2, w_enum, w_zip, w_expr, w_assign, w_par, w_aug, w_setIx, w_retE, w_retN, w_if, w_while, w_for, w_pass, w_brk, w_cont, w_bad, w_snil, w_scons, p_call, p_tup, p_mkT, p_mkLt, p_mkLf, p_lst, p_addI, p_addT, p_addS, p_addL, p_sub, p_mul, p_fdiv, p_mod, p_pow, p_neg, p_not, p_lt, p_le, p_gt, p_ge, p_isN, p_isnotN, p_isB, p_isnotB, p_eqI, p_neI, p_eqB, p_neB, p_len, p_lenL, p_lenC, p_ixC, p_ixT, p_ixL, p_ixR, p_max2, p_min2, p_abs, p_intI, p_intB, p_tupOf, p_listOf, p_sum, p_all, p_any, p_isI, p_isC, s_int, s_bl, s_tup, s_lst, s_str, s_non, s_ins, p_in, p_notin, t_bl, t_int, t_non, t_tup, t_lst, i_tup, i_lst, l_lst, ii_int, ii_bl, ii_tup, ii_lst, ii_str, ii_non, a_name, a_tup, a_nil, a_cons, sa_nil, sa_cons, i_at0, i_at1, i_at2, i_setR, i_ix30, i_ix31, i_ix32, i_lowI, i_lowB, i_lowN, i_lowT, p_eqT, p_neT, p_slT, p_slF, p_sl3, k_tup, k_lst, k_int, k_ins, p_app, i_isTt, i_isTl, i_isTr, l_len0, l_len1, l_len2, l_len3, l_len4, l_len5, l_len6, l_len7, l_len8, l_len9, l_len10, l_len11, l_len12, p_mulL, p_back, p_slLt, p_slLf, w_asgG, w_gName, w_gIx, w_gAttr, w_gTup, w_gNil, w_gCons, w_setAttr, p_neTP, p_eqTP, p_eqLI, p_neLI, i_recvI, Ok_ok, Ok_bad, OkS_ok, OkS_bad, OkS_then, onN_nx, onN_rt, onN_bk, onN_ct, onT_nx, onT_ct, onT_bk, onT_rt, onR_nx, onR_rt, Ok_ret, List.getElem?_cons_zero, List.getElem?_cons_succ, List.set_cons_zero, List.set_cons_succ, cut_same, Option.some.injEq, exists_eq_left', exists_eq_left, D.int.injEq, D.bl.injEq, D.tup.injEq, D.lst.injEq, D.ref.injEq, Cell.lst.injEq, Option.bind_some, Option.map_some, Bool.not_true, Bool.not_false, if_true, if_false, Bool.false_eq_true, reduceCtorEq, decide_true, decide_false, true_and, and_true, Prod.mk.injEq, and_self, String.reduceEq, Bool.or_false, Bool.false_or, Bool.or_true, Bool.true_or, Bool.and_true, Bool.true_and, Bool.and_false, Bool.false_and, reduceIte, beq_self_eq_true]
  exact R15 h a b c
/-- each of the sizes is a multiple of the last -/
theorem chain_last : ∀ (a : Int) (ns : List Int) (l : Int), (∀ p ∈ (a :: ns).zip ns, p.2 < p.1 ∧ p.1 % p.2 = 0) → (a :: ns).getLast? = some l → (∀ x ∈ a :: ns, 1 ≤ x) → ∀ x ∈ a :: ns, l ∣ x
  | a, [], l, _, hl, _, x, hx => by
    rw [List.mem_singleton] at hx
    simp at hl
    subst hl
    rw [hx]
    exact Int.dvd_refl _
  | a, b :: ns, l, hd, hl, h1, x, hx => by
    have ih := chain_last b ns l (fun p hp => hd p (by rw [List.zip_cons_cons]; exact List.mem_cons_of_mem _ hp)) (by simpa using hl) fun y hy => h1 y (List.mem_cons_of_mem _ hy)
    rcases List.mem_cons.mp hx with rfl | hx
    · have := (hd (x, b) (by rw [List.zip_cons_cons]; exact List.mem_cons_self)).2
      exact Int.dvd_trans (ih b List.mem_cons_self) (Int.dvd_of_emod_eq_zero this)
    · exact ih x hx
theorem Sizes.last {ns : List Int} (h : Sizes ns) : ∃ (a : List Int) (l : Int), ns = a ++ [l] ∧ ∀ x ∈ ns, l ∣ x := by
  rcases List.eq_nil_or_concat ns with rfl | ⟨a, l, rfl⟩
  · have := h.len; simp at this
  · refine ⟨a, l, by rw [List.concat_eq_append], fun x hx => ?_⟩
    cases e : a.concat l with
    | nil => rw [e] at hx; cases hx
    | cons y ys =>
      rw [e] at hx h
      refine chain_last y ys l (fun p hp => h.div p (by simpa using hp)) ?_ (fun x hx => (h.all x hx).1) x hx
      rw [← e, List.concat_eq_append, List.getLast?_concat]
/-- rooms rounded to the last size have the same places -/
theorem round_places {xs : List Int} {l s : Int} (hl : 1 ≤ l) (hd : l ∣ s) (hs : 1 ≤ s) (h : ∀ x ∈ xs, 1 ≤ x) : ((roundX xs l).map (· / s)).sum = (xs.map (· / s)).sum := by
  obtain ⟨q, rfl⟩ := hd
  have hq : 0 < q := by
    by_cases z : 0 < q
    · exact z
    · have : l * q ≤ l * 0 := Int.mul_le_mul_of_nonneg_left (by omega) (by omega)
      omega
  have hlq : l ≤ l * q := by
    have : l * 1 ≤ l * q := Int.mul_le_mul_of_nonneg_left (by omega) (by omega)
    omega
  induction xs with
  | nil => rfl
  | cons y xs ih =>
    have ih' := ih fun x hx => h x (List.mem_cons_of_mem _ hx)
    have hy := h y List.mem_cons_self
    unfold roundX at ih' ⊢
    rw [List.filter_cons]
    by_cases e : l ≤ y
    · simp only [e, decide_true, if_true, List.map_cons, List.sum_cons, ih']
      have : y / l * l / (l * q) = y / (l * q) := by
        rw [← Int.ediv_ediv_of_nonneg (by omega), Int.mul_ediv_cancel _ (by omega), Int.ediv_ediv_of_nonneg (by omega)]
      rw [this]
    · simp only [e, decide_false, Bool.false_eq_true, if_false, List.map_cons, List.sum_cons, ih']
      have : y / (l * q) = 0 := Int.ediv_eq_zero_of_lt (by omega) (by omega)
      omega
theorem RC.few_x (h : RC m n ns rs) : ∀ x ∈ expand rs, 1 ≤ x := fun x hx => (h.few.xall x hx).1
theorem RC.rok (h : RC m n ns rs) {s : Int} (hs : 1 ≤ s) : RowsOk (rle (roundX (expand rs) s)) := by
  obtain ⟨h1, h2⟩ := roundX_ok hs h.few_x
  have hl : (roundX (expand rs) s).length ≤ (expand rs).length := by
    unfold roundX
    rw [List.length_map]
    exact List.length_filter_le ..
  have := rle_len (roundX (expand rs) s)
  have := h.xl
  have := h.xs
  exact .of (by omega) (rle_lean _).pos (by rw [rle_expand]; exact h1) (by rw [rle_expand]; exact b60_big (by omega))
theorem R13 (h : RC m n ns rs) : Right k m n b30t13 ns rs d6 d7 d8 d9 d10 d11 d12 d13 := by
  intro a b c
  obtain ⟨as, l, el, hd⟩ := h.sz.last
  have hl := h.sz.all l (by rw [el]; simp)
  have e1 : atI (ns.map D.int) (-1) = some (.int l) := by rw [el, List.map_append]; exact at_last
  have e2 : placesR ns (rle (roundX (expand rs) l)) = placesR ns (leanR rs) := by
    rw [h.pl]
    unfold placesR
    refine List.map_congr_left fun s hs => ?_
    rw [rsum_expand _ (rle_lean _).pos, rle_expand]
    exact round_places hl.1 (hd s hs) (h.sz.all s hs).1 h.few_x
  simp only [b30t13, w_var, w_const, w_glob, w_op, w_nil, w_cons, w_tst, w_and, w_or, w_ife, w_chain, w_slc, w_lc, w_meth, w_meth2, w_ifs0, w_ifs1, w_over, w_range1, w_range2, w_enum, w_zip, w_expr, w_assign, w_par, w_aug, w_setIx, w_retE, w_retN, w_if, w_while, w_for, w_pass, w_brk, w_cont, w_bad, w_snil, w_scons, p_call, p_tup, p_mkT, p_mkLt, p_mkLf, p_lst, p_addI, p_addT, p_addS, p_addL, p_sub, p_mul, p_fdiv, p_mod, p_pow, p_neg, p_not, p_lt, p_le, p_gt, p_ge, p_isN, p_isnotN, p_isB, p_isnotB, p_eqI, p_neI, p_eqB, p_neB, p_len, p_lenL, p_lenC, p_ixC, p_ixT, p_ixL, p_ixR, p_max2, p_min2, p_abs, p_intI, p_intB, p_tupOf, p_listOf, p_sum, p_all, p_any, p_isI, p_isC, s_int, s_bl, s_tup, s_lst, s_str, s_non, s_ins, p_in, p_notin, t_bl, t_int, t_non, t_tup, t_lst, i_tup, i_lst, l_lst, ii_int, ii_bl, ii_tup, ii_lst, ii_str, ii_non, a_name, a_tup, a_nil, a_cons, sa_nil, sa_cons, i_at0, i_at1, i_at2, i_setR, i_ix30, i_ix31, i_ix32, i_lowI, i_lowB, i_lowN, i_lowT, p_eqT, p_neT, p_slT, p_slF, p_sl3, k_tup, k_lst, k_int, k_ins, p_app, i_isTt, i_isTl, i_isTr, l_len0, l_len1, l_len2, l_len3, l_len4, l_len5, l_len6, l_len7, l_len8, l_len9, l_len10, l_len11, l_len12, p_mulL, p_back, p_slLt, p_slLf, w_asgG, w_gName, w_gIx, w_gAttr, w_gTup, w_gNil, w_gCons, w_setAttr, p_neTP, p_eqTP, p_eqLI, p_neLI, i_recvI, Ok_ok, Ok_bad, OkS_ok, OkS_bad, OkS_then, onN_nx, onN_rt, onN_bk, onN_ct, onT_nx, onT_ct, onT_bk, onT_rt, onR_nx, onR_rt, Ok_ret, List.getElem?_cons_zero, List.getElem?_cons_succ, List.set_cons_zero, List.set_cons_succ, cut_same, Option.some.injEq, exists_eq_left', exists_eq_left, D.int.injEq, D.bl.injEq, D.tup.injEq, D.lst.injEq, D.ref.injEq, Cell.lst.injEq, Option.bind_some, Option.map_some, Bool.not_true, Bool.not_false, if_true, if_false, Bool.false_eq_true, reduceCtorEq, decide_true, decide_false, true_and, and_true, Prod.mk.injEq, and_self, String.reduceEq, Bool.or_false, Bool.false_or, Bool.or_true, Bool.true_or, Bool.and_true, Bool.true_and, Bool.and_false, Bool.false_and, reduceIte, beq_self_eq_true, e1, s_rounded (k+1) h.lok hl.1 hl.2, h.ex, s_places (k+5) h.sz (h.rok hl.1), s_places (k+5) h.sz h.lok, e2, p_neT]
  exact R14 h a b c
theorem R12 (h : RC m n ns rs) {s : Int} (hs : 1 ≤ s) (hs' : s ≤ 1000000000) : Right k m n b30t12 ns rs d6 d7 (some (.int s)) d9 d10 d11 d12 d13 := by
  intro a b c
  have hx := h.xl
  have hs0 : 0 < s := by omega
  have hsm : Sm s = true := smallN (by omega) hs'
  simp only [b30t12, w_var, w_const, w_glob, w_op, w_nil, w_cons, w_tst, w_and, w_or, w_ife, w_chain, w_slc, w_lc, w_meth, w_meth2, w_ifs0, w_ifs1, w_over, w_range1, w_range2, w_enum, w_zip, w_expr, w_assign, w_par, w_aug, w_setIx, w_retE, w_retN, w_if, w_while, w_for, w_pass, w_brk, w_cont, w_bad, w_snil, w_scons, p_call, p_tup, p_mkT, p_mkLt, p_mkLf, p_lst, p_addI, p_addT, p_addS, p_addL, p_sub, p_mul, p_fdiv, p_mod, p_pow, p_neg, p_not, p_lt, p_le, p_gt, p_ge, p_isN, p_isnotN, p_isB, p_isnotB, p_eqI, p_neI, p_eqB, p_neB, p_len, p_lenL, p_lenC, p_ixC, p_ixT, p_ixL, p_ixR, p_max2, p_min2, p_abs, p_intI, p_intB, p_tupOf, p_listOf, p_sum, p_all, p_any, p_isI, p_isC, s_int, s_bl, s_tup, s_lst, s_str, s_non, s_ins, p_in, p_notin, t_bl, t_int, t_non, t_tup, t_lst, i_tup, i_lst, l_lst, ii_int, ii_bl, ii_tup, ii_lst, ii_str, ii_non, a_name, a_tup, a_nil, a_cons, sa_nil, sa_cons, i_at0, i_at1, i_at2, i_setR, i_ix30, i_ix31, i_ix32, i_lowI, i_lowB, i_lowN, i_lowT, p_eqT, p_neT, p_slT, p_slF, p_sl3, k_tup, k_lst, k_int, k_ins, p_app, i_isTt, i_isTl, i_isTr, l_len0, l_len1, l_len2, l_len3, l_len4, l_len5, l_len6, l_len7, l_len8, l_len9, l_len10, l_len11, l_len12, p_mulL, p_back, p_slLt, p_slLf, w_asgG, w_gName, w_gIx, w_gAttr, w_gTup, w_gNil, w_gCons, w_setAttr, p_neTP, p_eqTP, p_eqLI, p_neLI, i_recvI, Ok_ok, Ok_bad, OkS_ok, OkS_bad, OkS_then, onN_nx, onN_rt, onN_bk, onN_ct, onT_nx, onT_ct, onT_bk, onT_rt, onR_nx, onR_rt, Ok_ret, List.getElem?_cons_zero, List.getElem?_cons_succ, List.set_cons_zero, List.set_cons_succ, cut_same, Option.some.injEq, exists_eq_left', exists_eq_left, D.int.injEq, D.bl.injEq, D.tup.injEq, D.lst.injEq, D.ref.injEq, Cell.lst.injEq, Option.bind_some, Option.map_some, Bool.not_true, Bool.not_false, if_true, if_false, Bool.false_eq_true, reduceCtorEq, decide_true, decide_false, true_and, and_true, Prod.mk.injEq, and_self, String.reduceEq, Bool.or_false, Bool.false_or, Bool.or_true, Bool.true_or, Bool.and_true, Bool.true_and, Bool.and_false, Bool.false_and, reduceIte, beq_self_eq_true, s_rounded (k+1) h.lok hs (b60_big hs'), h.ex, at_rows, List.length_map]
  refine ⟨lim40 (by omega), lc_pure D.int (fun x => .int (x / s * s)) (fun x => decide (s ≤ x)) rfl (fun x hx => ⟨_, rfl, ?_⟩) ?_⟩
  · have hx' := h.few.xall x hx
    have e2 : mulB (x / s) s = true := mulS (by
      have : 0 ≤ x / s := Int.ediv_nonneg (by omega) (by omega)
      have : x / s ≤ x := Int.ediv_le_self _ (by omega)
      exact smallN (by omega) (by omega)) hsm
    simp only [w_var, w_const, w_glob, w_op, w_nil, w_cons, w_tst, w_and, w_or, w_ife, w_chain, w_slc, w_lc, w_meth, w_meth2, w_ifs0, w_ifs1, w_over, w_range1, w_range2, w_enum, w_zip, w_expr, w_assign, w_par, w_aug, w_setIx, w_retE, w_retN, w_if, w_while, w_for, w_pass, w_brk, w_cont, w_bad, w_snil, w_scons, p_call, p_tup, p_mkT, p_mkLt, p_mkLf, p_lst, p_addI, p_addT, p_addS, p_addL, p_sub, p_mul, p_fdiv, p_mod, p_pow, p_neg, p_not, p_lt, p_le, p_gt, p_ge, p_isN, p_isnotN, p_isB, p_isnotB, p_eqI, p_neI, p_eqB, p_neB, p_len, p_lenL, p_lenC, p_ixC, p_ixT, p_ixL, p_ixR, p_max2, p_min2, p_abs, p_intI, p_intB, p_tupOf, p_listOf, p_sum, p_all, p_any, p_isI, p_isC, s_int, s_bl, s_tup, s_lst, s_str, s_non, s_ins, p_in, p_notin, t_bl, t_int, t_non, t_tup, t_lst, i_tup, i_lst, l_lst, ii_int, ii_bl, ii_tup, ii_lst, ii_str, ii_non, a_name, a_tup, a_nil, a_cons, sa_nil, sa_cons, i_at0, i_at1, i_at2, i_setR, i_ix30, i_ix31, i_ix32, i_lowI, i_lowB, i_lowN, i_lowT, p_eqT, p_neT, p_slT, p_slF, p_sl3, k_tup, k_lst, k_int, k_ins, p_app, i_isTt, i_isTl, i_isTr, l_len0, l_len1, l_len2, l_len3, l_len4, l_len5, l_len6, l_len7, l_len8, l_len9, l_len10, l_len11, l_len12, p_mulL, p_back, p_slLt, p_slLf, w_asgG, w_gName, w_gIx, w_gAttr, w_gTup, w_gNil, w_gCons, w_setAttr, p_neTP, p_eqTP, p_eqLI, p_neLI, i_recvI, Ok_ok, Ok_bad, OkS_ok, OkS_bad, OkS_then, onN_nx, onN_rt, onN_bk, onN_ct, onT_nx, onT_ct, onT_bk, onT_rt, onR_nx, onR_rt, Ok_ret, List.getElem?_cons_zero, List.getElem?_cons_succ, List.set_cons_zero, List.set_cons_succ, cut_same, Option.some.injEq, exists_eq_left', exists_eq_left, D.int.injEq, D.bl.injEq, D.tup.injEq, D.lst.injEq, D.ref.injEq, Cell.lst.injEq, Option.bind_some, Option.map_some, Bool.not_true, Bool.not_false, if_true, if_false, Bool.false_eq_true, reduceCtorEq, decide_true, decide_false, true_and, and_true, Prod.mk.injEq, and_self, String.reduceEq, Bool.or_false, Bool.false_or, Bool.or_true, Bool.true_or, Bool.and_true, Bool.true_and, Bool.and_false, Bool.false_and, reduceIte, beq_self_eq_true, wipeE, hs0, hsm, e2]
    intro _
    trivial
  · have e : ((expand rs).filter fun x => decide (s ≤ x)).map (fun x => D.int (x / s * s)) = (roundX (expand rs) s).map .int := by
      unfold roundX
      rw [List.map_map]
      rfl
    have hl : (roundX (expand rs) s).length ≤ 1000 := by
      unfold roundX
      rw [List.length_map]
      have := List.length_filter_le (fun x => decide (s ≤ x)) (expand rs)
      omega
    simp only [w_var, w_const, w_glob, w_op, w_nil, w_cons, w_tst, w_and, w_or, w_ife, w_chain, w_slc, w_lc, w_meth, w_meth2, w_ifs0, w_ifs1, w_over, w_range1, w_range2, w_enum, w_zip, w_expr, w_assign, w_par, w_aug, w_setIx, w_retE, w_retN, w_if, w_while, w_for, w_pass, w_brk, w_cont, w_bad, w_snil, w_scons, p_call, p_tup, p_mkT, p_mkLt, p_mkLf, p_lst, p_addI, p_addT, p_addS, p_addL, p_sub, p_mul, p_fdiv, p_mod, p_pow, p_neg, p_not, p_lt, p_le, p_gt, p_ge, p_isN, p_isnotN, p_isB, p_isnotB, p_eqI, p_neI, p_eqB, p_neB, p_len, p_lenL, p_lenC, p_ixC, p_ixT, p_ixL, p_ixR, p_max2, p_min2, p_abs, p_intI, p_intB, p_tupOf, p_listOf, p_sum, p_all, p_any, p_isI, p_isC, s_int, s_bl, s_tup, s_lst, s_str, s_non, s_ins, p_in, p_notin, t_bl, t_int, t_non, t_tup, t_lst, i_tup, i_lst, l_lst, ii_int, ii_bl, ii_tup, ii_lst, ii_str, ii_non, a_name, a_tup, a_nil, a_cons, sa_nil, sa_cons, i_at0, i_at1, i_at2, i_setR, i_ix30, i_ix31, i_ix32, i_lowI, i_lowB, i_lowN, i_lowT, p_eqT, p_neT, p_slT, p_slF, p_sl3, k_tup, k_lst, k_int, k_ins, p_app, i_isTt, i_isTl, i_isTr, l_len0, l_len1, l_len2, l_len3, l_len4, l_len5, l_len6, l_len7, l_len8, l_len9, l_len10, l_len11, l_len12, p_mulL, p_back, p_slLt, p_slLf, w_asgG, w_gName, w_gIx, w_gAttr, w_gTup, w_gNil, w_gCons, w_setAttr, p_neTP, p_eqTP, p_eqLI, p_neLI, i_recvI, Ok_ok, Ok_bad, OkS_ok, OkS_bad, OkS_then, onN_nx, onN_rt, onN_bk, onN_ct, onT_nx, onT_ct, onT_bk, onT_rt, onR_nx, onR_rt, Ok_ret, List.getElem?_cons_zero, List.getElem?_cons_succ, List.set_cons_zero, List.set_cons_succ, cut_same, Option.some.injEq, exists_eq_left', exists_eq_left, D.int.injEq, D.bl.injEq, D.tup.injEq, D.lst.injEq, D.ref.injEq, Cell.lst.injEq, Option.bind_some, Option.map_some, Bool.not_true, Bool.not_false, if_true, if_false, Bool.false_eq_true, reduceCtorEq, decide_true, decide_false, true_and, and_true, Prod.mk.injEq, and_self, String.reduceEq, Bool.or_false, Bool.false_or, Bool.or_true, Bool.true_or, Bool.and_true, Bool.true_and, Bool.and_false, Bool.false_and, reduceIte, beq_self_eq_true, e, List.length_map, s__law_rows (k+5) _ _ hl, p_neTP]
    exact ⟨lim40 hl, R13 h a b c⟩
theorem R11 (h : RC m n ns rs) : Right k m n b30t11 ns rs d6 d7 d8 d9 d10 d11 d12 d13 := by
  intro a b c
  obtain ⟨_, _, _, hm⟩ := h.hm
  obtain ⟨s, ns', rfl⟩ : ∃ s ns', ns = s :: ns' := by
    cases ns with
    | nil => have := h.sz.len; simp at this
    | cons s ns' => exact ⟨s, ns', rfl⟩
  have hs1 := (h.sz.all s List.mem_cons_self).1
  have hs2 := h.sb s List.mem_cons_self
  simp only [b30t11, w_var, w_const, w_glob, w_op, w_nil, w_cons, w_tst, w_and, w_or, w_ife, w_chain, w_slc, w_lc, w_meth, w_meth2, w_ifs0, w_ifs1, w_over, w_range1, w_range2, w_enum, w_zip, w_expr, w_assign, w_par, w_aug, w_setIx, w_retE, w_retN, w_if, w_while, w_for, w_pass, w_brk, w_cont, w_bad, w_snil, w_scons, p_call, p_tup, p_mkT, p_mkLt, p_mkLf, p_lst, p_addI, p_addT, p_addS, p_addL, p_sub, p_mul, p_fdiv, p_mod, p_pow, p_neg, p_not, p_lt, p_le, p_gt, p_ge, p_isN, p_isnotN, p_isB, p_isnotB, p_eqI, p_neI, p_eqB, p_neB, p_len, p_lenL, p_lenC, p_ixC, p_ixT, p_ixL, p_ixR, p_max2, p_min2, p_abs, p_intI, p_intB, p_tupOf, p_listOf, p_sum, p_all, p_any, p_isI, p_isC, s_int, s_bl, s_tup, s_lst, s_str, s_non, s_ins, p_in, p_notin, t_bl, t_int, t_non, t_tup, t_lst, i_tup, i_lst, l_lst, ii_int, ii_bl, ii_tup, ii_lst, ii_str, ii_non, a_name, a_tup, a_nil, a_cons, sa_nil, sa_cons, i_at0, i_at1, i_at2, i_setR, i_ix30, i_ix31, i_ix32, i_lowI, i_lowB, i_lowN, i_lowT, p_eqT, p_neT, p_slT, p_slF, p_sl3, k_tup, k_lst, k_int, k_ins, p_app, i_isTt, i_isTl, i_isTr, l_len0, l_len1, l_len2, l_len3, l_len4, l_len5, l_len6, l_len7, l_len8, l_len9, l_len10, l_len11, l_len12, p_mulL, p_back, p_slLt, p_slLf, w_asgG, w_gName, w_gIx, w_gAttr, w_gTup, w_gNil, w_gCons, w_setAttr, p_neTP, p_eqTP, p_eqLI, p_neLI, i_recvI, Ok_ok, Ok_bad, OkS_ok, OkS_bad, OkS_then, onN_nx, onN_rt, onN_bk, onN_ct, onT_nx, onT_ct, onT_bk, onT_rt, onR_nx, onR_rt, Ok_ret, List.getElem?_cons_zero, List.getElem?_cons_succ, List.set_cons_zero, List.set_cons_succ, cut_same, Option.some.injEq, exists_eq_left', exists_eq_left, D.int.injEq, D.bl.injEq, D.tup.injEq, D.lst.injEq, D.ref.injEq, Cell.lst.injEq, Option.bind_some, Option.map_some, Bool.not_true, Bool.not_false, if_true, if_false, Bool.false_eq_true, reduceCtorEq, decide_true, decide_false, true_and, and_true, Prod.mk.injEq, and_self, String.reduceEq, Bool.or_false, Bool.false_or, Bool.or_true, Bool.true_or, Bool.and_true, Bool.true_and, Bool.and_false, Bool.false_and, reduceIte, beq_self_eq_true, List.map_cons, i_at0]
  refine (s_roll _ (at_set hm _) (by omega) (smallN (by omega) (by omega))).imp fun r ⟨v, a2, b2, c2, e', hv0, hv1⟩ => ?_
  subst e'
  simp only [w_var, w_const, w_glob, w_op, w_nil, w_cons, w_tst, w_and, w_or, w_ife, w_chain, w_slc, w_lc, w_meth, w_meth2, w_ifs0, w_ifs1, w_over, w_range1, w_range2, w_enum, w_zip, w_expr, w_assign, w_par, w_aug, w_setIx, w_retE, w_retN, w_if, w_while, w_for, w_pass, w_brk, w_cont, w_bad, w_snil, w_scons, p_call, p_tup, p_mkT, p_mkLt, p_mkLf, p_lst, p_addI, p_addT, p_addS, p_addL, p_sub, p_mul, p_fdiv, p_mod, p_pow, p_neg, p_not, p_lt, p_le, p_gt, p_ge, p_isN, p_isnotN, p_isB, p_isnotB, p_eqI, p_neI, p_eqB, p_neB, p_len, p_lenL, p_lenC, p_ixC, p_ixT, p_ixL, p_ixR, p_max2, p_min2, p_abs, p_intI, p_intB, p_tupOf, p_listOf, p_sum, p_all, p_any, p_isI, p_isC, s_int, s_bl, s_tup, s_lst, s_str, s_non, s_ins, p_in, p_notin, t_bl, t_int, t_non, t_tup, t_lst, i_tup, i_lst, l_lst, ii_int, ii_bl, ii_tup, ii_lst, ii_str, ii_non, a_name, a_tup, a_nil, a_cons, sa_nil, sa_cons, i_at0, i_at1, i_at2, i_setR, i_ix30, i_ix31, i_ix32, i_lowI, i_lowB, i_lowN, i_lowT, p_eqT, p_neT, p_slT, p_slF, p_sl3, k_tup, k_lst, k_int, k_ins, p_app, i_isTt, i_isTl, i_isTr, l_len0, l_len1, l_len2, l_len3, l_len4, l_len5, l_len6, l_len7, l_len8, l_len9, l_len10, l_len11, l_len12, p_mulL, p_back, p_slLt, p_slLf, w_asgG, w_gName, w_gIx, w_gAttr, w_gTup, w_gNil, w_gCons, w_setAttr, p_neTP, p_eqTP, p_eqLI, p_neLI, i_recvI, Ok_ok, Ok_bad, OkS_ok, OkS_bad, OkS_then, onN_nx, onN_rt, onN_bk, onN_ct, onT_nx, onT_ct, onT_bk, onT_rt, onR_nx, onR_rt, Ok_ret, List.getElem?_cons_zero, List.getElem?_cons_succ, List.set_cons_zero, List.set_cons_succ, cut_same, Option.some.injEq, exists_eq_left', exists_eq_left, D.int.injEq, D.bl.injEq, D.tup.injEq, D.lst.injEq, D.ref.injEq, Cell.lst.injEq, Option.bind_some, Option.map_some, Bool.not_true, Bool.not_false, if_true, if_false, Bool.false_eq_true, reduceCtorEq, decide_true, decide_false, true_and, and_true, Prod.mk.injEq, and_self, String.reduceEq, Bool.or_false, Bool.false_or, Bool.or_true, Bool.true_or, Bool.and_true, Bool.true_and, Bool.and_false, Bool.false_and, reduceIte, beq_self_eq_true, List.set_set]
  exact R12 h (by omega) (by omega) a2 b2 c2
theorem R10 (h : RC m n ns rs) {os : Rws} (ho : Few os 3) : Right k m n b30t10 ns rs d6 (some (.tup (os.map pairT))) d8 d9 d10 d11 d12 d13 := by
  intro a b c
  have hx := h.xl
  have hxo := ho.xlen
  have hok := ho.ok (by decide)
  have hll := leanR_len os
  have hlo := ho.len
  have hr := h.ll
  have e1 : expand (leanR os) = expand os := leanR_expand ho.pos
  have hs : (expand (leanR rs)).sum + (expand (leanR os)).sum ≤ B60 := by
    rw [h.ex, e1]
    have := h.xs
    exact b60_big (by omega)
  simp only [b30t10, w_var, w_const, w_glob, w_op, w_nil, w_cons, w_tst, w_and, w_or, w_ife, w_chain, w_slc, w_lc, w_meth, w_meth2, w_ifs0, w_ifs1, w_over, w_range1, w_range2, w_enum, w_zip, w_expr, w_assign, w_par, w_aug, w_setIx, w_retE, w_retN, w_if, w_while, w_for, w_pass, w_brk, w_cont, w_bad, w_snil, w_scons, p_call, p_tup, p_mkT, p_mkLt, p_mkLf, p_lst, p_addI, p_addT, p_addS, p_addL, p_sub, p_mul, p_fdiv, p_mod, p_pow, p_neg, p_not, p_lt, p_le, p_gt, p_ge, p_isN, p_isnotN, p_isB, p_isnotB, p_eqI, p_neI, p_eqB, p_neB, p_len, p_lenL, p_lenC, p_ixC, p_ixT, p_ixL, p_ixR, p_max2, p_min2, p_abs, p_intI, p_intB, p_tupOf, p_listOf, p_sum, p_all, p_any, p_isI, p_isC, s_int, s_bl, s_tup, s_lst, s_str, s_non, s_ins, p_in, p_notin, t_bl, t_int, t_non, t_tup, t_lst, i_tup, i_lst, l_lst, ii_int, ii_bl, ii_tup, ii_lst, ii_str, ii_non, a_name, a_tup, a_nil, a_cons, sa_nil, sa_cons, i_at0, i_at1, i_at2, i_setR, i_ix30, i_ix31, i_ix32, i_lowI, i_lowB, i_lowN, i_lowT, p_eqT, p_neT, p_slT, p_slF, p_sl3, k_tup, k_lst, k_int, k_ins, p_app, i_isTt, i_isTl, i_isTr, l_len0, l_len1, l_len2, l_len3, l_len4, l_len5, l_len6, l_len7, l_len8, l_len9, l_len10, l_len11, l_len12, p_mulL, p_back, p_slLt, p_slLf, w_asgG, w_gName, w_gIx, w_gAttr, w_gTup, w_gNil, w_gCons, w_setAttr, p_neTP, p_eqTP, p_eqLI, p_neLI, i_recvI, Ok_ok, Ok_bad, OkS_ok, OkS_bad, OkS_then, onN_nx, onN_rt, onN_bk, onN_ct, onT_nx, onT_ct, onT_bk, onT_rt, onR_nx, onR_rt, Ok_ret, List.getElem?_cons_zero, List.getElem?_cons_succ, List.set_cons_zero, List.set_cons_succ, cut_same, Option.some.injEq, exists_eq_left', exists_eq_left, D.int.injEq, D.bl.injEq, D.tup.injEq, D.lst.injEq, D.ref.injEq, Cell.lst.injEq, Option.bind_some, Option.map_some, Bool.not_true, Bool.not_false, if_true, if_false, Bool.false_eq_true, reduceCtorEq, decide_true, decide_false, true_and, and_true, Prod.mk.injEq, and_self, String.reduceEq, Bool.or_false, Bool.false_or, Bool.or_true, Bool.true_or, Bool.and_true, Bool.true_and, Bool.and_false, Bool.false_and, reduceIte, beq_self_eq_true, Ok_of (new_stock (k+2) _ hok), s_joined (k+1) h.lok hok.lean (by omega) hs, at_rows, s__law_cl_rooms (k+6) _ ho (by decide), ← List.map_append, List.length_map, List.length_append, h.ex, e1, s__law_rows (k+5) (expand rs ++ expand os) _ (by rw [List.length_append]; omega), p_neTP]
  exact ⟨lim40 (by omega), R11 h a b c⟩
theorem R9 (h : RC m n ns rs) : Right k m n b30t9 ns rs d6 d7 d8 d9 d10 d11 d12 d13 := by
  intro a b c
  obtain ⟨_, _, _, hm⟩ := h.hm
  simp only [b30t9, w_var, w_const, w_glob, w_op, w_nil, w_cons, w_tst, w_and, w_or, w_ife, w_chain, w_slc, w_lc, w_meth, w_meth2, w_ifs0, w_ifs1, w_over, w_range1, w_range2, w_enum, w_zip, w_expr, w_assign, w_par, w_aug, w_setIx, w_retE, w_retN, w_if, w_while, w_for, w_pass, w_brk, w_cont, w_bad, w_snil, w_scons, p_call, p_tup, p_mkT, p_mkLt, p_mkLf, p_lst, p_addI, p_addT, p_addS, p_addL, p_sub, p_mul, p_fdiv, p_mod, p_pow, p_neg, p_not, p_lt, p_le, p_gt, p_ge, p_isN, p_isnotN, p_isB, p_isnotB, p_eqI, p_neI, p_eqB, p_neB, p_len, p_lenL, p_lenC, p_ixC, p_ixT, p_ixL, p_ixR, p_max2, p_min2, p_abs, p_intI, p_intB, p_tupOf, p_listOf, p_sum, p_all, p_any, p_isI, p_isC, s_int, s_bl, s_tup, s_lst, s_str, s_non, s_ins, p_in, p_notin, t_bl, t_int, t_non, t_tup, t_lst, i_tup, i_lst, l_lst, ii_int, ii_bl, ii_tup, ii_lst, ii_str, ii_non, a_name, a_tup, a_nil, a_cons, sa_nil, sa_cons, i_at0, i_at1, i_at2, i_setR, i_ix30, i_ix31, i_ix32, i_lowI, i_lowB, i_lowN, i_lowT, p_eqT, p_neT, p_slT, p_slF, p_sl3, k_tup, k_lst, k_int, k_ins, p_app, i_isTt, i_isTl, i_isTr, l_len0, l_len1, l_len2, l_len3, l_len4, l_len5, l_len6, l_len7, l_len8, l_len9, l_len10, l_len11, l_len12, p_mulL, p_back, p_slLt, p_slLf, w_asgG, w_gName, w_gIx, w_gAttr, w_gTup, w_gNil, w_gCons, w_setAttr, p_neTP, p_eqTP, p_eqLI, p_neLI, i_recvI, Ok_ok, Ok_bad, OkS_ok, OkS_bad, OkS_then, onN_nx, onN_rt, onN_bk, onN_ct, onT_nx, onT_ct, onT_bk, onT_rt, onR_nx, onR_rt, Ok_ret, List.getElem?_cons_zero, List.getElem?_cons_succ, List.set_cons_zero, List.set_cons_succ, cut_same, Option.some.injEq, exists_eq_left', exists_eq_left, D.int.injEq, D.bl.injEq, D.tup.injEq, D.lst.injEq, D.ref.injEq, Cell.lst.injEq, Option.bind_some, Option.map_some, Bool.not_true, Bool.not_false, if_true, if_false, Bool.false_eq_true, reduceCtorEq, decide_true, decide_false, true_and, and_true, Prod.mk.injEq, and_self, String.reduceEq, Bool.or_false, Bool.false_or, Bool.or_true, Bool.true_or, Bool.and_true, Bool.true_and, Bool.and_false, Bool.false_and, reduceIte, beq_self_eq_true]
  refine (s__law_cl_rows (k+4) (at_set hm _) h.sz h.sb (t := 3) (by decide) (by decide)).imp fun r ⟨os, a2, b2, c2, e', ho, _⟩ => ?_
  subst e'
  simp only [w_var, w_const, w_glob, w_op, w_nil, w_cons, w_tst, w_and, w_or, w_ife, w_chain, w_slc, w_lc, w_meth, w_meth2, w_ifs0, w_ifs1, w_over, w_range1, w_range2, w_enum, w_zip, w_expr, w_assign, w_par, w_aug, w_setIx, w_retE, w_retN, w_if, w_while, w_for, w_pass, w_brk, w_cont, w_bad, w_snil, w_scons, p_call, p_tup, p_mkT, p_mkLt, p_mkLf, p_lst, p_addI, p_addT, p_addS, p_addL, p_sub, p_mul, p_fdiv, p_mod, p_pow, p_neg, p_not, p_lt, p_le, p_gt, p_ge, p_isN, p_isnotN, p_isB, p_isnotB, p_eqI, p_neI, p_eqB, p_neB, p_len, p_lenL, p_lenC, p_ixC, p_ixT, p_ixL, p_ixR, p_max2, p_min2, p_abs, p_intI, p_intB, p_tupOf, p_listOf, p_sum, p_all, p_any, p_isI, p_isC, s_int, s_bl, s_tup, s_lst, s_str, s_non, s_ins, p_in, p_notin, t_bl, t_int, t_non, t_tup, t_lst, i_tup, i_lst, l_lst, ii_int, ii_bl, ii_tup, ii_lst, ii_str, ii_non, a_name, a_tup, a_nil, a_cons, sa_nil, sa_cons, i_at0, i_at1, i_at2, i_setR, i_ix30, i_ix31, i_ix32, i_lowI, i_lowB, i_lowN, i_lowT, p_eqT, p_neT, p_slT, p_slF, p_sl3, k_tup, k_lst, k_int, k_ins, p_app, i_isTt, i_isTl, i_isTr, l_len0, l_len1, l_len2, l_len3, l_len4, l_len5, l_len6, l_len7, l_len8, l_len9, l_len10, l_len11, l_len12, p_mulL, p_back, p_slLt, p_slLf, w_asgG, w_gName, w_gIx, w_gAttr, w_gTup, w_gNil, w_gCons, w_setAttr, p_neTP, p_eqTP, p_eqLI, p_neLI, i_recvI, Ok_ok, Ok_bad, OkS_ok, OkS_bad, OkS_then, onN_nx, onN_rt, onN_bk, onN_ct, onT_nx, onT_ct, onT_bk, onT_rt, onR_nx, onR_rt, Ok_ret, List.getElem?_cons_zero, List.getElem?_cons_succ, List.set_cons_zero, List.set_cons_succ, cut_same, Option.some.injEq, exists_eq_left', exists_eq_left, D.int.injEq, D.bl.injEq, D.tup.injEq, D.lst.injEq, D.ref.injEq, Cell.lst.injEq, Option.bind_some, Option.map_some, Bool.not_true, Bool.not_false, if_true, if_false, Bool.false_eq_true, reduceCtorEq, decide_true, decide_false, true_and, and_true, Prod.mk.injEq, and_self, String.reduceEq, Bool.or_false, Bool.false_or, Bool.or_true, Bool.true_or, Bool.and_true, Bool.true_and, Bool.and_false, Bool.false_and, reduceIte, beq_self_eq_true, List.set_set]
  exact R10 h ho a2 b2 c2
theorem R8 (h : RC m n ns rs) {q : Nat} (hq : q ≤ (expand rs).length) : Right k m n b30t8 ns rs (some (.int q)) d7 d8 d9 d10 d11 d12 d13 := by
  intro a b c
  have hx := h.xl
  have hq' : (q : Int) ≤ holdsR (leanR rs) := by rw [h.hl]; omega
  have hl : (sortI (expand rs)).length = (expand rs).length := List.length_mergeSort ..
  have es : ∀ fz m, prim P (callN P (k + 7)) (.sorted fz) [.lst ((expand rs).map .int)] m = mkL fz ((sortI (expand rs)).map .int) m := fun fz m => sort_ints rfl
  simp only [b30t8, w_var, w_const, w_glob, w_op, w_nil, w_cons, w_tst, w_and, w_or, w_ife, w_chain, w_slc, w_lc, w_meth, w_meth2, w_ifs0, w_ifs1, w_over, w_range1, w_range2, w_enum, w_zip, w_expr, w_assign, w_par, w_aug, w_setIx, w_retE, w_retN, w_if, w_while, w_for, w_pass, w_brk, w_cont, w_bad, w_snil, w_scons, p_call, p_tup, p_mkT, p_mkLt, p_mkLf, p_lst, p_addI, p_addT, p_addS, p_addL, p_sub, p_mul, p_fdiv, p_mod, p_pow, p_neg, p_not, p_lt, p_le, p_gt, p_ge, p_isN, p_isnotN, p_isB, p_isnotB, p_eqI, p_neI, p_eqB, p_neB, p_len, p_lenL, p_lenC, p_ixC, p_ixT, p_ixL, p_ixR, p_max2, p_min2, p_abs, p_intI, p_intB, p_tupOf, p_listOf, p_sum, p_all, p_any, p_isI, p_isC, s_int, s_bl, s_tup, s_lst, s_str, s_non, s_ins, p_in, p_notin, t_bl, t_int, t_non, t_tup, t_lst, i_tup, i_lst, l_lst, ii_int, ii_bl, ii_tup, ii_lst, ii_str, ii_non, a_name, a_tup, a_nil, a_cons, sa_nil, sa_cons, i_at0, i_at1, i_at2, i_setR, i_ix30, i_ix31, i_ix32, i_lowI, i_lowB, i_lowN, i_lowT, p_eqT, p_neT, p_slT, p_slF, p_sl3, k_tup, k_lst, k_int, k_ins, p_app, i_isTt, i_isTl, i_isTr, l_len0, l_len1, l_len2, l_len3, l_len4, l_len5, l_len6, l_len7, l_len8, l_len9, l_len10, l_len11, l_len12, p_mulL, p_back, p_slLt, p_slLf, w_asgG, w_gName, w_gIx, w_gAttr, w_gTup, w_gNil, w_gCons, w_setAttr, p_neTP, p_eqTP, p_eqLI, p_neLI, i_recvI, Ok_ok, Ok_bad, OkS_ok, OkS_bad, OkS_then, onN_nx, onN_rt, onN_bk, onN_ct, onT_nx, onT_ct, onT_bk, onT_rt, onR_nx, onR_rt, Ok_ret, List.getElem?_cons_zero, List.getElem?_cons_succ, List.set_cons_zero, List.set_cons_succ, cut_same, Option.some.injEq, exists_eq_left', exists_eq_left, D.int.injEq, D.bl.injEq, D.tup.injEq, D.lst.injEq, D.ref.injEq, Cell.lst.injEq, Option.bind_some, Option.map_some, Bool.not_true, Bool.not_false, if_true, if_false, Bool.false_eq_true, reduceCtorEq, decide_true, decide_false, true_and, and_true, Prod.mk.injEq, and_self, String.reduceEq, Bool.or_false, Bool.false_or, Bool.or_true, Bool.true_or, Bool.and_true, Bool.true_and, Bool.and_false, Bool.false_and, reduceIte, beq_self_eq_true, s_greatest_holds (k+1) h.lok (Int.natCast_nonneg q) hq', at_rows, es, h.ex, List.length_map, hl, ← List.map_reverse, List.length_reverse, cut_take, ← List.map_take, List.length_take, Int.toNat_natCast, s__law_rows (k+5) ((sortI (expand rs)).reverse.take q) _ (by simp; omega), p_neTP]
  exact ⟨lim40 (by omega), lim40 (by omega), lim40 (by omega), R9 h a b c⟩
theorem R7 (h : RC m n ns rs) {q : Nat} (hq : q ≤ (expand rs).length) : Right k m n b30t7 ns rs (some (.int q)) d7 d8 d9 d10 d11 d12 d13 := by
  intro a b c
  have hx := h.xl
  have hq' : (q : Int) ≤ holdsR (leanR rs) := by rw [h.hl]; omega
  simp only [b30t7, w_var, w_const, w_glob, w_op, w_nil, w_cons, w_tst, w_and, w_or, w_ife, w_chain, w_slc, w_lc, w_meth, w_meth2, w_ifs0, w_ifs1, w_over, w_range1, w_range2, w_enum, w_zip, w_expr, w_assign, w_par, w_aug, w_setIx, w_retE, w_retN, w_if, w_while, w_for, w_pass, w_brk, w_cont, w_bad, w_snil, w_scons, p_call, p_tup, p_mkT, p_mkLt, p_mkLf, p_lst, p_addI, p_addT, p_addS, p_addL, p_sub, p_mul, p_fdiv, p_mod, p_pow, p_neg, p_not, p_lt, p_le, p_gt, p_ge, p_isN, p_isnotN, p_isB, p_isnotB, p_eqI, p_neI, p_eqB, p_neB, p_len, p_lenL, p_lenC, p_ixC, p_ixT, p_ixL, p_ixR, p_max2, p_min2, p_abs, p_intI, p_intB, p_tupOf, p_listOf, p_sum, p_all, p_any, p_isI, p_isC, s_int, s_bl, s_tup, s_lst, s_str, s_non, s_ins, p_in, p_notin, t_bl, t_int, t_non, t_tup, t_lst, i_tup, i_lst, l_lst, ii_int, ii_bl, ii_tup, ii_lst, ii_str, ii_non, a_name, a_tup, a_nil, a_cons, sa_nil, sa_cons, i_at0, i_at1, i_at2, i_setR, i_ix30, i_ix31, i_ix32, i_lowI, i_lowB, i_lowN, i_lowT, p_eqT, p_neT, p_slT, p_slF, p_sl3, k_tup, k_lst, k_int, k_ins, p_app, i_isTt, i_isTl, i_isTr, l_len0, l_len1, l_len2, l_len3, l_len4, l_len5, l_len6, l_len7, l_len8, l_len9, l_len10, l_len11, l_len12, p_mulL, p_back, p_slLt, p_slLf, w_asgG, w_gName, w_gIx, w_gAttr, w_gTup, w_gNil, w_gCons, w_setAttr, p_neTP, p_eqTP, p_eqLI, p_neLI, i_recvI, Ok_ok, Ok_bad, OkS_ok, OkS_bad, OkS_then, onN_nx, onN_rt, onN_bk, onN_ct, onT_nx, onT_ct, onT_bk, onT_rt, onR_nx, onR_rt, Ok_ret, List.getElem?_cons_zero, List.getElem?_cons_succ, List.set_cons_zero, List.set_cons_succ, cut_same, Option.some.injEq, exists_eq_left', exists_eq_left, D.int.injEq, D.bl.injEq, D.tup.injEq, D.lst.injEq, D.ref.injEq, Cell.lst.injEq, Option.bind_some, Option.map_some, Bool.not_true, Bool.not_false, if_true, if_false, Bool.false_eq_true, reduceCtorEq, decide_true, decide_false, true_and, and_true, Prod.mk.injEq, and_self, String.reduceEq, Bool.or_false, Bool.false_or, Bool.or_true, Bool.true_or, Bool.and_true, Bool.true_and, Bool.and_false, Bool.false_and, reduceIte, beq_self_eq_true, s_first_holds (k+1) h.lok (Int.natCast_nonneg q) hq', at_rows, h.ex, List.length_map, cut_take, ← List.map_take, List.length_take, Int.toNat_natCast, s__law_rows (k+5) ((expand rs).take q) _ (by simp; omega), p_neTP]
  exact ⟨lim40 (by omega), R8 h hq a b c⟩
theorem R6 (h : RC m n ns rs) : Right k m n b30t6 ns rs d6 d7 d8 d9 d10 d11 d12 d13 := by
  intro a b c
  obtain ⟨_, _, _, hm⟩ := h.hm
  have hx := h.xl
  simp only [b30t6, w_var, w_const, w_glob, w_op, w_nil, w_cons, w_tst, w_and, w_or, w_ife, w_chain, w_slc, w_lc, w_meth, w_meth2, w_ifs0, w_ifs1, w_over, w_range1, w_range2, w_enum, w_zip, w_expr, w_assign, w_par, w_aug, w_setIx, w_retE, w_retN, w_if, w_while, w_for, w_pass, w_brk, w_cont, w_bad, w_snil, w_scons, p_call, p_tup, p_mkT, p_mkLt, p_mkLf, p_lst, p_addI, p_addT, p_addS, p_addL, p_sub, p_mul, p_fdiv, p_mod, p_pow, p_neg, p_not, p_lt, p_le, p_gt, p_ge, p_isN, p_isnotN, p_isB, p_isnotB, p_eqI, p_neI, p_eqB, p_neB, p_len, p_lenL, p_lenC, p_ixC, p_ixT, p_ixL, p_ixR, p_max2, p_min2, p_abs, p_intI, p_intB, p_tupOf, p_listOf, p_sum, p_all, p_any, p_isI, p_isC, s_int, s_bl, s_tup, s_lst, s_str, s_non, s_ins, p_in, p_notin, t_bl, t_int, t_non, t_tup, t_lst, i_tup, i_lst, l_lst, ii_int, ii_bl, ii_tup, ii_lst, ii_str, ii_non, a_name, a_tup, a_nil, a_cons, sa_nil, sa_cons, i_at0, i_at1, i_at2, i_setR, i_ix30, i_ix31, i_ix32, i_lowI, i_lowB, i_lowN, i_lowT, p_eqT, p_neT, p_slT, p_slF, p_sl3, k_tup, k_lst, k_int, k_ins, p_app, i_isTt, i_isTl, i_isTr, l_len0, l_len1, l_len2, l_len3, l_len4, l_len5, l_len6, l_len7, l_len8, l_len9, l_len10, l_len11, l_len12, p_mulL, p_back, p_slLt, p_slLf, w_asgG, w_gName, w_gIx, w_gAttr, w_gTup, w_gNil, w_gCons, w_setAttr, p_neTP, p_eqTP, p_eqLI, p_neLI, i_recvI, Ok_ok, Ok_bad, OkS_ok, OkS_bad, OkS_then, onN_nx, onN_rt, onN_bk, onN_ct, onT_nx, onT_ct, onT_bk, onT_rt, onR_nx, onR_rt, Ok_ret, List.getElem?_cons_zero, List.getElem?_cons_succ, List.set_cons_zero, List.set_cons_succ, cut_same, Option.some.injEq, exists_eq_left', exists_eq_left, D.int.injEq, D.bl.injEq, D.tup.injEq, D.lst.injEq, D.ref.injEq, Cell.lst.injEq, Option.bind_some, Option.map_some, Bool.not_true, Bool.not_false, if_true, if_false, Bool.false_eq_true, reduceCtorEq, decide_true, decide_false, true_and, and_true, Prod.mk.injEq, and_self, String.reduceEq, Bool.or_false, Bool.false_or, Bool.or_true, Bool.true_or, Bool.and_true, Bool.true_and, Bool.and_false, Bool.false_and, reduceIte, beq_self_eq_true, List.length_map]
  refine (s_roll _ (at_set hm _) (by omega) (smallN (by omega) (by omega))).imp fun r ⟨v, a2, b2, c2, e', hv0, hv1⟩ => ?_
  subst e'
  obtain ⟨q, rfl⟩ : ∃ q : Nat, v = q := ⟨v.toNat, by omega⟩
  simp only [w_var, w_const, w_glob, w_op, w_nil, w_cons, w_tst, w_and, w_or, w_ife, w_chain, w_slc, w_lc, w_meth, w_meth2, w_ifs0, w_ifs1, w_over, w_range1, w_range2, w_enum, w_zip, w_expr, w_assign, w_par, w_aug, w_setIx, w_retE, w_retN, w_if, w_while, w_for, w_pass, w_brk, w_cont, w_bad, w_snil, w_scons, p_call, p_tup, p_mkT, p_mkLt, p_mkLf, p_lst, p_addI, p_addT, p_addS, p_addL, p_sub, p_mul, p_fdiv, p_mod, p_pow, p_neg, p_not, p_lt, p_le, p_gt, p_ge, p_isN, p_isnotN, p_isB, p_isnotB, p_eqI, p_neI, p_eqB, p_neB, p_len, p_lenL, p_lenC, p_ixC, p_ixT, p_ixL, p_ixR, p_max2, p_min2, p_abs, p_intI, p_intB, p_tupOf, p_listOf, p_sum, p_all, p_any, p_isI, p_isC, s_int, s_bl, s_tup, s_lst, s_str, s_non, s_ins, p_in, p_notin, t_bl, t_int, t_non, t_tup, t_lst, i_tup, i_lst, l_lst, ii_int, ii_bl, ii_tup, ii_lst, ii_str, ii_non, a_name, a_tup, a_nil, a_cons, sa_nil, sa_cons, i_at0, i_at1, i_at2, i_setR, i_ix30, i_ix31, i_ix32, i_lowI, i_lowB, i_lowN, i_lowT, p_eqT, p_neT, p_slT, p_slF, p_sl3, k_tup, k_lst, k_int, k_ins, p_app, i_isTt, i_isTl, i_isTr, l_len0, l_len1, l_len2, l_len3, l_len4, l_len5, l_len6, l_len7, l_len8, l_len9, l_len10, l_len11, l_len12, p_mulL, p_back, p_slLt, p_slLf, w_asgG, w_gName, w_gIx, w_gAttr, w_gTup, w_gNil, w_gCons, w_setAttr, p_neTP, p_eqTP, p_eqLI, p_neLI, i_recvI, Ok_ok, Ok_bad, OkS_ok, OkS_bad, OkS_then, onN_nx, onN_rt, onN_bk, onN_ct, onT_nx, onT_ct, onT_bk, onT_rt, onR_nx, onR_rt, Ok_ret, List.getElem?_cons_zero, List.getElem?_cons_succ, List.set_cons_zero, List.set_cons_succ, cut_same, Option.some.injEq, exists_eq_left', exists_eq_left, D.int.injEq, D.bl.injEq, D.tup.injEq, D.lst.injEq, D.ref.injEq, Cell.lst.injEq, Option.bind_some, Option.map_some, Bool.not_true, Bool.not_false, if_true, if_false, Bool.false_eq_true, reduceCtorEq, decide_true, decide_false, true_and, and_true, Prod.mk.injEq, and_self, String.reduceEq, Bool.or_false, Bool.false_or, Bool.or_true, Bool.true_or, Bool.and_true, Bool.true_and, Bool.and_false, Bool.false_and, reduceIte, beq_self_eq_true, List.set_set]
  exact R7 h (by omega) a2 b2 c2
theorem R5 (h : RC m n ns rs) : Right k m n b30t5 ns rs d6 d7 d8 d9 d10 d11 d12 d13 := by
  intro a b c
  have hx := h.xl
  have hl := h.sz.len'
  simp only [b30t5, w_var, w_const, w_glob, w_op, w_nil, w_cons, w_tst, w_and, w_or, w_ife, w_chain, w_slc, w_lc, w_meth, w_meth2, w_ifs0, w_ifs1, w_over, w_range1, w_range2, w_enum, w_zip, w_expr, w_assign, w_par, w_aug, w_setIx, w_retE, w_retN, w_if, w_while, w_for, w_pass, w_brk, w_cont, w_bad, w_snil, w_scons, p_call, p_tup, p_mkT, p_mkLt, p_mkLf, p_lst, p_addI, p_addT, p_addS, p_addL, p_sub, p_mul, p_fdiv, p_mod, p_pow, p_neg, p_not, p_lt, p_le, p_gt, p_ge, p_isN, p_isnotN, p_isB, p_isnotB, p_eqI, p_neI, p_eqB, p_neB, p_len, p_lenL, p_lenC, p_ixC, p_ixT, p_ixL, p_ixR, p_max2, p_min2, p_abs, p_intI, p_intB, p_tupOf, p_listOf, p_sum, p_all, p_any, p_isI, p_isC, s_int, s_bl, s_tup, s_lst, s_str, s_non, s_ins, p_in, p_notin, t_bl, t_int, t_non, t_tup, t_lst, i_tup, i_lst, l_lst, ii_int, ii_bl, ii_tup, ii_lst, ii_str, ii_non, a_name, a_tup, a_nil, a_cons, sa_nil, sa_cons, i_at0, i_at1, i_at2, i_setR, i_ix30, i_ix31, i_ix32, i_lowI, i_lowB, i_lowN, i_lowT, p_eqT, p_neT, p_slT, p_slF, p_sl3, k_tup, k_lst, k_int, k_ins, p_app, i_isTt, i_isTl, i_isTr, l_len0, l_len1, l_len2, l_len3, l_len4, l_len5, l_len6, l_len7, l_len8, l_len9, l_len10, l_len11, l_len12, p_mulL, p_back, p_slLt, p_slLf, w_asgG, w_gName, w_gIx, w_gAttr, w_gTup, w_gNil, w_gCons, w_setAttr, p_neTP, p_eqTP, p_eqLI, p_neLI, i_recvI, Ok_ok, Ok_bad, OkS_ok, OkS_bad, OkS_then, onN_nx, onN_rt, onN_bk, onN_ct, onT_nx, onT_ct, onT_bk, onT_rt, onR_nx, onR_rt, Ok_ret, List.getElem?_cons_zero, List.getElem?_cons_succ, List.set_cons_zero, List.set_cons_succ, cut_same, Option.some.injEq, exists_eq_left', exists_eq_left, D.int.injEq, D.bl.injEq, D.tup.injEq, D.lst.injEq, D.ref.injEq, Cell.lst.injEq, Option.bind_some, Option.map_some, Bool.not_true, Bool.not_false, if_true, if_false, Bool.false_eq_true, reduceCtorEq, decide_true, decide_false, true_and, and_true, Prod.mk.injEq, and_self, String.reduceEq, Bool.or_false, Bool.false_or, Bool.or_true, Bool.true_or, Bool.and_true, Bool.true_and, Bool.and_false, Bool.false_and, reduceIte, beq_self_eq_true, s_places (k+5) h.sz h.lok, s__law_cl_places (k+6) ns (expand rs) _ (by omega) (by omega) h.sz.sm, h.pl, p_neT]
  exact R6 h a b c
theorem m_room_of : ((P.cls[1]?).bind fun cl => cl.meths.lookup ("room_of" : PySem.Str)) = some 41 := rfl
theorem range_get_map {xs : List Int} : ((List.range xs.length).map fun i => D.int (xs[i]?.getD 0)) = xs.map .int := by
  apply List.ext_getElem?
  intro i
  rw [List.getElem?_map, List.getElem?_map]
  by_cases hi : i < xs.length
  · rw [List.getElem?_range hi]
    simp [List.getElem?_eq_getElem hi]
  · rw [List.getElem?_eq_none (by simp; omega), List.getElem?_eq_none (by omega)]
    rfl
theorem R4 (h : RC m n ns rs) : Right k m n b30t4 ns rs d6 d7 d8 d9 d10 d11 d12 d13 := by
  intro a b c
  have hx := h.xl
  simp only [b30t4, w_var, w_const, w_glob, w_op, w_nil, w_cons, w_tst, w_and, w_or, w_ife, w_chain, w_slc, w_lc, w_meth, w_meth2, w_ifs0, w_ifs1, w_over, w_range1, w_range2, w_enum, w_zip, w_expr, w_assign, w_par, w_aug, w_setIx, w_retE, w_retN, w_if, w_while, w_for, w_pass, w_brk, w_cont, w_bad, w_snil, w_scons, p_call, p_tup, p_mkT, p_mkLt, p_mkLf, p_lst, p_addI, p_addT, p_addS, p_addL, p_sub, p_mul, p_fdiv, p_mod, p_pow, p_neg, p_not, p_lt, p_le, p_gt, p_ge, p_isN, p_isnotN, p_isB, p_isnotB, p_eqI, p_neI, p_eqB, p_neB, p_len, p_lenL, p_lenC, p_ixC, p_ixT, p_ixL, p_ixR, p_max2, p_min2, p_abs, p_intI, p_intB, p_tupOf, p_listOf, p_sum, p_all, p_any, p_isI, p_isC, s_int, s_bl, s_tup, s_lst, s_str, s_non, s_ins, p_in, p_notin, t_bl, t_int, t_non, t_tup, t_lst, i_tup, i_lst, l_lst, ii_int, ii_bl, ii_tup, ii_lst, ii_str, ii_non, a_name, a_tup, a_nil, a_cons, sa_nil, sa_cons, i_at0, i_at1, i_at2, i_setR, i_ix30, i_ix31, i_ix32, i_lowI, i_lowB, i_lowN, i_lowT, p_eqT, p_neT, p_slT, p_slF, p_sl3, k_tup, k_lst, k_int, k_ins, p_app, i_isTt, i_isTl, i_isTr, l_len0, l_len1, l_len2, l_len3, l_len4, l_len5, l_len6, l_len7, l_len8, l_len9, l_len10, l_len11, l_len12, p_mulL, p_back, p_slLt, p_slLf, w_asgG, w_gName, w_gIx, w_gAttr, w_gTup, w_gNil, w_gCons, w_setAttr, p_neTP, p_eqTP, p_eqLI, p_neLI, i_recvI, Ok_ok, Ok_bad, OkS_ok, OkS_bad, OkS_then, onN_nx, onN_rt, onN_bk, onN_ct, onT_nx, onT_ct, onT_bk, onT_rt, onR_nx, onR_rt, Ok_ret, List.getElem?_cons_zero, List.getElem?_cons_succ, List.set_cons_zero, List.set_cons_succ, cut_same, Option.some.injEq, exists_eq_left', exists_eq_left, D.int.injEq, D.bl.injEq, D.tup.injEq, D.lst.injEq, D.ref.injEq, Cell.lst.injEq, Option.bind_some, Option.map_some, Bool.not_true, Bool.not_false, if_true, if_false, Bool.false_eq_true, reduceCtorEq, decide_true, decide_false, true_and, and_true, Prod.mk.injEq, and_self, String.reduceEq, Bool.or_false, Bool.false_or, Bool.or_true, Bool.true_or, Bool.and_true, Bool.true_and, Bool.and_false, Bool.false_and, reduceIte, beq_self_eq_true, List.length_map, Int.toNat_natCast, rangeD_map, List.length_range]
  refine ⟨by simp [small62]; omega, lim40 (by omega), lc_map (fun (i : Nat) => D.int (0 + i)) (fun i => D.int ((expand rs)[i]?.getD 0)) rfl (fun _ => rfl) (fun i hi => ⟨_, rfl, ?_⟩) ?_⟩
  · have hi' : i < (expand rs).length := by simpa using hi
    have hg : (expand (leanR rs))[i]? = some ((expand rs)[i]?.getD 0) := by
      rw [h.ex, List.getElem?_eq_getElem hi']; rfl
    simp only [w_var, w_const, w_glob, w_op, w_nil, w_cons, w_tst, w_and, w_or, w_ife, w_chain, w_slc, w_lc, w_meth, w_meth2, w_ifs0, w_ifs1, w_over, w_range1, w_range2, w_enum, w_zip, w_expr, w_assign, w_par, w_aug, w_setIx, w_retE, w_retN, w_if, w_while, w_for, w_pass, w_brk, w_cont, w_bad, w_snil, w_scons, p_call, p_tup, p_mkT, p_mkLt, p_mkLf, p_lst, p_addI, p_addT, p_addS, p_addL, p_sub, p_mul, p_fdiv, p_mod, p_pow, p_neg, p_not, p_lt, p_le, p_gt, p_ge, p_isN, p_isnotN, p_isB, p_isnotB, p_eqI, p_neI, p_eqB, p_neB, p_len, p_lenL, p_lenC, p_ixC, p_ixT, p_ixL, p_ixR, p_max2, p_min2, p_abs, p_intI, p_intB, p_tupOf, p_listOf, p_sum, p_all, p_any, p_isI, p_isC, s_int, s_bl, s_tup, s_lst, s_str, s_non, s_ins, p_in, p_notin, t_bl, t_int, t_non, t_tup, t_lst, i_tup, i_lst, l_lst, ii_int, ii_bl, ii_tup, ii_lst, ii_str, ii_non, a_name, a_tup, a_nil, a_cons, sa_nil, sa_cons, i_at0, i_at1, i_at2, i_setR, i_ix30, i_ix31, i_ix32, i_lowI, i_lowB, i_lowN, i_lowT, p_eqT, p_neT, p_slT, p_slF, p_sl3, k_tup, k_lst, k_int, k_ins, p_app, i_isTt, i_isTl, i_isTr, l_len0, l_len1, l_len2, l_len3, l_len4, l_len5, l_len6, l_len7, l_len8, l_len9, l_len10, l_len11, l_len12, p_mulL, p_back, p_slLt, p_slLf, w_asgG, w_gName, w_gIx, w_gAttr, w_gTup, w_gNil, w_gCons, w_setAttr, p_neTP, p_eqTP, p_eqLI, p_neLI, i_recvI, Ok_ok, Ok_bad, OkS_ok, OkS_bad, OkS_then, onN_nx, onN_rt, onN_bk, onN_ct, onT_nx, onT_ct, onT_bk, onT_rt, onR_nx, onR_rt, Ok_ret, List.getElem?_cons_zero, List.getElem?_cons_succ, List.set_cons_zero, List.set_cons_succ, cut_same, Option.some.injEq, exists_eq_left', exists_eq_left, D.int.injEq, D.bl.injEq, D.tup.injEq, D.lst.injEq, D.ref.injEq, Cell.lst.injEq, Option.bind_some, Option.map_some, Bool.not_true, Bool.not_false, if_true, if_false, Bool.false_eq_true, reduceCtorEq, decide_true, decide_false, true_and, and_true, Prod.mk.injEq, and_self, String.reduceEq, Bool.or_false, Bool.false_or, Bool.or_true, Bool.true_or, Bool.and_true, Bool.true_and, Bool.and_false, Bool.false_and, reduceIte, beq_self_eq_true, wipeE, Int.zero_add]
    refine ⟨_, _, rfl, m_room_of, ?_⟩
    rw [s_room_of (k+3) h.lok hg, Ok_ok]
  · simp only [range_get_map, w_var, w_const, w_glob, w_op, w_nil, w_cons, w_tst, w_and, w_or, w_ife, w_chain, w_slc, w_lc, w_meth, w_meth2, w_ifs0, w_ifs1, w_over, w_range1, w_range2, w_enum, w_zip, w_expr, w_assign, w_par, w_aug, w_setIx, w_retE, w_retN, w_if, w_while, w_for, w_pass, w_brk, w_cont, w_bad, w_snil, w_scons, p_call, p_tup, p_mkT, p_mkLt, p_mkLf, p_lst, p_addI, p_addT, p_addS, p_addL, p_sub, p_mul, p_fdiv, p_mod, p_pow, p_neg, p_not, p_lt, p_le, p_gt, p_ge, p_isN, p_isnotN, p_isB, p_isnotB, p_eqI, p_neI, p_eqB, p_neB, p_len, p_lenL, p_lenC, p_ixC, p_ixT, p_ixL, p_ixR, p_max2, p_min2, p_abs, p_intI, p_intB, p_tupOf, p_listOf, p_sum, p_all, p_any, p_isI, p_isC, s_int, s_bl, s_tup, s_lst, s_str, s_non, s_ins, p_in, p_notin, t_bl, t_int, t_non, t_tup, t_lst, i_tup, i_lst, l_lst, ii_int, ii_bl, ii_tup, ii_lst, ii_str, ii_non, a_name, a_tup, a_nil, a_cons, sa_nil, sa_cons, i_at0, i_at1, i_at2, i_setR, i_ix30, i_ix31, i_ix32, i_lowI, i_lowB, i_lowN, i_lowT, p_eqT, p_neT, p_slT, p_slF, p_sl3, k_tup, k_lst, k_int, k_ins, p_app, i_isTt, i_isTl, i_isTr, l_len0, l_len1, l_len2, l_len3, l_len4, l_len5, l_len6, l_len7, l_len8, l_len9, l_len10, l_len11, l_len12, p_mulL, p_back, p_slLt, p_slLf, w_asgG, w_gName, w_gIx, w_gAttr, w_gTup, w_gNil, w_gCons, w_setAttr, p_neTP, p_eqTP, p_eqLI, p_neLI, i_recvI, Ok_ok, Ok_bad, OkS_ok, OkS_bad, OkS_then, onN_nx, onN_rt, onN_bk, onN_ct, onT_nx, onT_ct, onT_bk, onT_rt, onR_nx, onR_rt, Ok_ret, List.getElem?_cons_zero, List.getElem?_cons_succ, List.set_cons_zero, List.set_cons_succ, cut_same, Option.some.injEq, exists_eq_left', exists_eq_left, D.int.injEq, D.bl.injEq, D.tup.injEq, D.lst.injEq, D.ref.injEq, Cell.lst.injEq, Option.bind_some, Option.map_some, Bool.not_true, Bool.not_false, if_true, if_false, Bool.false_eq_true, reduceCtorEq, decide_true, decide_false, true_and, and_true, Prod.mk.injEq, and_self, String.reduceEq, Bool.or_false, Bool.false_or, Bool.or_true, Bool.true_or, Bool.and_true, Bool.true_and, Bool.and_false, Bool.false_and, reduceIte, beq_self_eq_true, List.length_map, p_neLI, s_is_stock (k+2) _ h.ok]
    exact ⟨lim40 (by omega), R5 h a b c⟩
theorem R3 (h : RC m n ns rs) : Right k m n b30t3 ns rs d6 d7 d8 d9 d10 d11 d12 d13 := by
  intro a b c
  have hx := h.xl
  have hl := h.few.len
  have hll := h.ll
  simp only [b30t3, w_var, w_const, w_glob, w_op, w_nil, w_cons, w_tst, w_and, w_or, w_ife, w_chain, w_slc, w_lc, w_meth, w_meth2, w_ifs0, w_ifs1, w_over, w_range1, w_range2, w_enum, w_zip, w_expr, w_assign, w_par, w_aug, w_setIx, w_retE, w_retN, w_if, w_while, w_for, w_pass, w_brk, w_cont, w_bad, w_snil, w_scons, p_call, p_tup, p_mkT, p_mkLt, p_mkLf, p_lst, p_addI, p_addT, p_addS, p_addL, p_sub, p_mul, p_fdiv, p_mod, p_pow, p_neg, p_not, p_lt, p_le, p_gt, p_ge, p_isN, p_isnotN, p_isB, p_isnotB, p_eqI, p_neI, p_eqB, p_neB, p_len, p_lenL, p_lenC, p_ixC, p_ixT, p_ixL, p_ixR, p_max2, p_min2, p_abs, p_intI, p_intB, p_tupOf, p_listOf, p_sum, p_all, p_any, p_isI, p_isC, s_int, s_bl, s_tup, s_lst, s_str, s_non, s_ins, p_in, p_notin, t_bl, t_int, t_non, t_tup, t_lst, i_tup, i_lst, l_lst, ii_int, ii_bl, ii_tup, ii_lst, ii_str, ii_non, a_name, a_tup, a_nil, a_cons, sa_nil, sa_cons, i_at0, i_at1, i_at2, i_setR, i_ix30, i_ix31, i_ix32, i_lowI, i_lowB, i_lowN, i_lowT, p_eqT, p_neT, p_slT, p_slF, p_sl3, k_tup, k_lst, k_int, k_ins, p_app, i_isTt, i_isTl, i_isTr, l_len0, l_len1, l_len2, l_len3, l_len4, l_len5, l_len6, l_len7, l_len8, l_len9, l_len10, l_len11, l_len12, p_mulL, p_back, p_slLt, p_slLf, w_asgG, w_gName, w_gIx, w_gAttr, w_gTup, w_gNil, w_gCons, w_setAttr, p_neTP, p_eqTP, p_eqLI, p_neLI, i_recvI, Ok_ok, Ok_bad, OkS_ok, OkS_bad, OkS_then, onN_nx, onN_rt, onN_bk, onN_ct, onT_nx, onT_ct, onT_bk, onT_rt, onR_nx, onR_rt, Ok_ret, List.getElem?_cons_zero, List.getElem?_cons_succ, List.set_cons_zero, List.set_cons_succ, cut_same, Option.some.injEq, exists_eq_left', exists_eq_left, D.int.injEq, D.bl.injEq, D.tup.injEq, D.lst.injEq, D.ref.injEq, Cell.lst.injEq, Option.bind_some, Option.map_some, Bool.not_true, Bool.not_false, if_true, if_false, Bool.false_eq_true, reduceCtorEq, decide_true, decide_false, true_and, and_true, Prod.mk.injEq, and_self, String.reduceEq, Bool.or_false, Bool.false_or, Bool.or_true, Bool.true_or, Bool.and_true, Bool.true_and, Bool.and_false, Bool.false_and, reduceIte, beq_self_eq_true, at_rows, s__law_cl_lean (k+6) rs _ (by omega), p_neTP, at_holds (k+5) (by omega : (leanR rs).length ≤ 1000), h.hl, at_room (k+5) (by omega : (leanR rs).length ≤ 1000) h.lok.sm, h.rl, List.length_map, intsD_map]
  exact R4 h a b c
end
theorem s__law_right (k : Nat) {a b c : Int} {m : Mem} {n : Nat} (hm : m[n]? = some (dc a b c)) : Ok (callN P (k+8) 30 [.ref n] m) fun r => ∃ a' b' c', r = (.bl true, m.set n (dc a' b' c')) := by
  rw [u30]
  simp only [b30, b30t1, b30t2, w_var, w_const, w_glob, w_op, w_nil, w_cons, w_tst, w_and, w_or, w_ife, w_chain, w_slc, w_lc, w_meth, w_meth2, w_ifs0, w_ifs1, w_over, w_range1, w_range2, w_enum, w_zip, w_expr, w_assign, w_par, w_aug, w_setIx, w_retE, w_retN, w_if, w_while, w_for, w_pass, w_brk, w_cont, w_bad, w_snil, w_scons, p_call, p_tup, p_mkT, p_mkLt, p_mkLf, p_lst, p_addI, p_addT, p_addS, p_addL, p_sub, p_mul, p_fdiv, p_mod, p_pow, p_neg, p_not, p_lt, p_le, p_gt, p_ge, p_isN, p_isnotN, p_isB, p_isnotB, p_eqI, p_neI, p_eqB, p_neB, p_len, p_lenL, p_lenC, p_ixC, p_ixT, p_ixL, p_ixR, p_max2, p_min2, p_abs, p_intI, p_intB, p_tupOf, p_listOf, p_sum, p_all, p_any, p_isI, p_isC, s_int, s_bl, s_tup, s_lst, s_str, s_non, s_ins, p_in, p_notin, t_bl, t_int, t_non, t_tup, t_lst, i_tup, i_lst, l_lst, ii_int, ii_bl, ii_tup, ii_lst, ii_str, ii_non, a_name, a_tup, a_nil, a_cons, sa_nil, sa_cons, i_at0, i_at1, i_at2, i_setR, i_ix30, i_ix31, i_ix32, i_lowI, i_lowB, i_lowN, i_lowT, p_eqT, p_neT, p_slT, p_slF, p_sl3, k_tup, k_lst, k_int, k_ins, p_app, i_isTt, i_isTl, i_isTr, l_len0, l_len1, l_len2, l_len3, l_len4, l_len5, l_len6, l_len7, l_len8, l_len9, l_len10, l_len11, l_len12, p_mulL, p_back, p_slLt, p_slLf, w_asgG, w_gName, w_gIx, w_gAttr, w_gTup, w_gNil, w_gCons, w_setAttr, p_neTP, p_eqTP, p_eqLI, p_neLI, i_recvI, Ok_ok, Ok_bad, OkS_ok, OkS_bad, OkS_then, onN_nx, onN_rt, onN_bk, onN_ct, onT_nx, onT_ct, onT_bk, onT_rt, onR_nx, onR_rt, Ok_ret, List.getElem?_cons_zero, List.getElem?_cons_succ, List.set_cons_zero, List.set_cons_succ, cut_same, Option.some.injEq, exists_eq_left', exists_eq_left, D.int.injEq, D.bl.injEq, D.tup.injEq, D.lst.injEq, D.ref.injEq, Cell.lst.injEq, Option.bind_some, Option.map_some, Bool.not_true, Bool.not_false, if_true, if_false, Bool.false_eq_true, reduceCtorEq, decide_true, decide_false, true_and, and_true, Prod.mk.injEq, and_self, String.reduceEq, Bool.or_false, Bool.false_or, Bool.or_true, Bool.true_or, Bool.and_true, Bool.true_and, Bool.and_false, Bool.false_and, reduceIte, beq_self_eq_true]
  refine (s__law_cl_scale (k+4) hm).imp fun r ⟨ns, a1, b1, c1, e, hs, hb⟩ => ?_
  subst e
  simp only [w_var, w_const, w_glob, w_op, w_nil, w_cons, w_tst, w_and, w_or, w_ife, w_chain, w_slc, w_lc, w_meth, w_meth2, w_ifs0, w_ifs1, w_over, w_range1, w_range2, w_enum, w_zip, w_expr, w_assign, w_par, w_aug, w_setIx, w_retE, w_retN, w_if, w_while, w_for, w_pass, w_brk, w_cont, w_bad, w_snil, w_scons, p_call, p_tup, p_mkT, p_mkLt, p_mkLf, p_lst, p_addI, p_addT, p_addS, p_addL, p_sub, p_mul, p_fdiv, p_mod, p_pow, p_neg, p_not, p_lt, p_le, p_gt, p_ge, p_isN, p_isnotN, p_isB, p_isnotB, p_eqI, p_neI, p_eqB, p_neB, p_len, p_lenL, p_lenC, p_ixC, p_ixT, p_ixL, p_ixR, p_max2, p_min2, p_abs, p_intI, p_intB, p_tupOf, p_listOf, p_sum, p_all, p_any, p_isI, p_isC, s_int, s_bl, s_tup, s_lst, s_str, s_non, s_ins, p_in, p_notin, t_bl, t_int, t_non, t_tup, t_lst, i_tup, i_lst, l_lst, ii_int, ii_bl, ii_tup, ii_lst, ii_str, ii_non, a_name, a_tup, a_nil, a_cons, sa_nil, sa_cons, i_at0, i_at1, i_at2, i_setR, i_ix30, i_ix31, i_ix32, i_lowI, i_lowB, i_lowN, i_lowT, p_eqT, p_neT, p_slT, p_slF, p_sl3, k_tup, k_lst, k_int, k_ins, p_app, i_isTt, i_isTl, i_isTr, l_len0, l_len1, l_len2, l_len3, l_len4, l_len5, l_len6, l_len7, l_len8, l_len9, l_len10, l_len11, l_len12, p_mulL, p_back, p_slLt, p_slLf, w_asgG, w_gName, w_gIx, w_gAttr, w_gTup, w_gNil, w_gCons, w_setAttr, p_neTP, p_eqTP, p_eqLI, p_neLI, i_recvI, Ok_ok, Ok_bad, OkS_ok, OkS_bad, OkS_then, onN_nx, onN_rt, onN_bk, onN_ct, onT_nx, onT_ct, onT_bk, onT_rt, onR_nx, onR_rt, Ok_ret, List.getElem?_cons_zero, List.getElem?_cons_succ, List.set_cons_zero, List.set_cons_succ, cut_same, Option.some.injEq, exists_eq_left', exists_eq_left, D.int.injEq, D.bl.injEq, D.tup.injEq, D.lst.injEq, D.ref.injEq, Cell.lst.injEq, Option.bind_some, Option.map_some, Bool.not_true, Bool.not_false, if_true, if_false, Bool.false_eq_true, reduceCtorEq, decide_true, decide_false, true_and, and_true, Prod.mk.injEq, and_self, String.reduceEq, Bool.or_false, Bool.false_or, Bool.or_true, Bool.true_or, Bool.and_true, Bool.true_and, Bool.and_false, Bool.false_and, reduceIte, beq_self_eq_true, Ok_of (new_scale (k+3) _ hs)]
  refine (s__law_cl_rows (k+4) (at_set hm _) hs hb (t := 5) (by decide) (by decide)).imp fun r ⟨rs, a2, b2, c2, e', hf, hn⟩ => ?_
  subst e'
  have hok := hf.ok (by decide)
  simp only [w_var, w_const, w_glob, w_op, w_nil, w_cons, w_tst, w_and, w_or, w_ife, w_chain, w_slc, w_lc, w_meth, w_meth2, w_ifs0, w_ifs1, w_over, w_range1, w_range2, w_enum, w_zip, w_expr, w_assign, w_par, w_aug, w_setIx, w_retE, w_retN, w_if, w_while, w_for, w_pass, w_brk, w_cont, w_bad, w_snil, w_scons, p_call, p_tup, p_mkT, p_mkLt, p_mkLf, p_lst, p_addI, p_addT, p_addS, p_addL, p_sub, p_mul, p_fdiv, p_mod, p_pow, p_neg, p_not, p_lt, p_le, p_gt, p_ge, p_isN, p_isnotN, p_isB, p_isnotB, p_eqI, p_neI, p_eqB, p_neB, p_len, p_lenL, p_lenC, p_ixC, p_ixT, p_ixL, p_ixR, p_max2, p_min2, p_abs, p_intI, p_intB, p_tupOf, p_listOf, p_sum, p_all, p_any, p_isI, p_isC, s_int, s_bl, s_tup, s_lst, s_str, s_non, s_ins, p_in, p_notin, t_bl, t_int, t_non, t_tup, t_lst, i_tup, i_lst, l_lst, ii_int, ii_bl, ii_tup, ii_lst, ii_str, ii_non, a_name, a_tup, a_nil, a_cons, sa_nil, sa_cons, i_at0, i_at1, i_at2, i_setR, i_ix30, i_ix31, i_ix32, i_lowI, i_lowB, i_lowN, i_lowT, p_eqT, p_neT, p_slT, p_slF, p_sl3, k_tup, k_lst, k_int, k_ins, p_app, i_isTt, i_isTl, i_isTr, l_len0, l_len1, l_len2, l_len3, l_len4, l_len5, l_len6, l_len7, l_len8, l_len9, l_len10, l_len11, l_len12, p_mulL, p_back, p_slLt, p_slLf, w_asgG, w_gName, w_gIx, w_gAttr, w_gTup, w_gNil, w_gCons, w_setAttr, p_neTP, p_eqTP, p_eqLI, p_neLI, i_recvI, Ok_ok, Ok_bad, OkS_ok, OkS_bad, OkS_then, onN_nx, onN_rt, onN_bk, onN_ct, onT_nx, onT_ct, onT_bk, onT_rt, onR_nx, onR_rt, Ok_ret, List.getElem?_cons_zero, List.getElem?_cons_succ, List.set_cons_zero, List.set_cons_succ, cut_same, Option.some.injEq, exists_eq_left', exists_eq_left, D.int.injEq, D.bl.injEq, D.tup.injEq, D.lst.injEq, D.ref.injEq, Cell.lst.injEq, Option.bind_some, Option.map_some, Bool.not_true, Bool.not_false, if_true, if_false, Bool.false_eq_true, reduceCtorEq, decide_true, decide_false, true_and, and_true, Prod.mk.injEq, and_self, String.reduceEq, Bool.or_false, Bool.false_or, Bool.or_true, Bool.true_or, Bool.and_true, Bool.true_and, Bool.and_false, Bool.false_and, reduceIte, beq_self_eq_true, Ok_of (new_stock (k+2) _ hok), s__law_cl_rooms (k+6) _ hf (by decide), List.set_set]
  exact R3 ⟨⟨_, _, _, hm⟩, hs, hb, hf, hn⟩ a2 b2 c2
end HT

namespace HT
open Rf L2
def S3 : List Int := [10 ^ 25, 10 ^ 20, 1]
theorem S3_ok : Sizes S3 := by
  refine ⟨by decide, by decide, fun n hn => ?_, fun p hp => ?_⟩
  · simp only [S3, List.mem_cons, List.not_mem_nil, or_false] at hn
    rcases hn with rfl | rfl | rfl <;> decide +kernel
  · simp only [S3, List.drop_succ_cons, List.drop_zero, List.zip_cons_cons, List.zip_nil_right, List.mem_cons, List.not_mem_nil, or_false] at hp
    rcases hp with rfl | rfl <;> decide +kernel
/-- great rows -/
structure Big (rs : Rws) (n : Nat) : Prop where
  len : rs.length ≤ n
  all : ∀ p ∈ rs, (1 ≤ p.1 ∧ p.1 ≤ 10 ^ 30) ∧ (1 ≤ p.2 ∧ p.2 ≤ 10 ^ 28)
theorem Big.pos {rs : Rws} {n : Nat} (h : Big rs n) : Pos1 rs := fun p hp => (h.all p hp).2.1
theorem Big.sum : ∀ {rs : Rws} {n : Nat}, Big rs n → rsum id rs ≤ 10 ^ 58 * n
  | [], n, _ => by simp [rsum]; omega
  | p :: rs, 0, h => by have := h.len; simp at this
  | p :: rs, n + 1, h => by
    have ih := Big.sum (rs := rs) (n := n) ⟨by have := h.len; simpa using this, fun q hq => h.all q (List.mem_cons_of_mem _ hq)⟩
    have hp := h.all p List.mem_cons_self
    rw [rsum_cons]
    have h1 : id p.1 * p.2 ≤ 10 ^ 30 * 10 ^ 28 := Int.mul_le_mul hp.1.2 hp.2.2 (by omega) (by decide)
    have h2 : (10 : Int) ^ 30 * 10 ^ 28 = 10 ^ 58 := by decide +kernel
    have h3 : (10 : Int) ^ 58 * ((n + 1 : Nat) : Int) = 10 ^ 58 * n + 10 ^ 58 := by rw [Int.natCast_add, Int.mul_add]; simp
    omega
theorem Big.ok {rs : Rws} {n : Nat} (h : Big rs n) (hn : n ≤ 50) : RowsOk rs := by
  have e : rsum id rs = (expand rs).sum := by rw [rsum_expand id h.pos, List.map_id]
  refine .of (Nat.le_trans h.len (by omega)) h.pos (fun x hx => ?_) ?_
  · obtain ⟨p, hp, rfl⟩ := mem_expand hx
    exact (h.all p hp).1.1
  · have h1 := h.sum
    have h2 : (10 : Int) ^ 58 * n ≤ 10 ^ 58 * 50 := Int.mul_le_mul_of_nonneg_left (by omega) (by decide)
    have h3 : (10 : Int) ^ 58 * 50 ≤ B60 := by unfold B60; decide +kernel
    omega
theorem seg {rs : Rws} {i q : Nat} {p : Int × Int} (hp : Pos1 rs) (hi : rs[i]? = some p) (h1 : holdsR (rs.take i) ≤ q) (h2 : (q : Int) < holdsR (rs.take i) + p.2) : (expand rs)[q]? = some p.1 ∧ ((expand rs).take q).sum = rsum id (rs.take i) + (q - holdsR (rs.take i)) * p.1 := by
  have hp' : Pos1 (rs.take i) := fun x hx => hp x (List.mem_of_mem_take hx)
  have e : expand rs = expand (rs.take i) ++ (List.replicate p.2.toNat p.1 ++ expand (rs.drop (i + 1))) := by
    rw [← expand_cons, ← drop_at hi, ← expand_app, List.take_append_drop]
  have hl := holds_len hp'
  have hs : rsum id (rs.take i) = (expand (rs.take i)).sum := by rw [rsum_expand id hp', List.map_id]
  rw [hl] at h1 h2 ⊢
  obtain ⟨j, hj⟩ : ∃ j, q = (expand (rs.take i)).length + j := ⟨q - (expand (rs.take i)).length, by omega⟩
  subst hj
  have hj : j < p.2.toNat := by omega
  refine ⟨?_, ?_⟩
  · rw [e, List.getElem?_append_right (by omega), Nat.add_sub_cancel_left, List.getElem?_append_left (by rw [List.length_replicate]; exact hj), rep_get hj]
  · rw [e, List.take_append, List.take_of_length_le (by omega), Nat.add_sub_cancel_left, List.take_append_of_le_length (by rw [List.length_replicate]; omega), List.take_replicate, Nat.min_eq_left (by omega), List.sum_append, sum_rep, hs]
    have : ((((expand (rs.take i)).length + j : Nat) : Int) - (expand (rs.take i)).length) = j := by omega
    rw [this, Int.mul_comm]
theorem holds_succ {rs : Rws} {i : Nat} {p : Int × Int} (hi : rs[i]? = some p) : holdsR (rs.take (i + 1)) = holdsR (rs.take i) + p.2 := by
  rw [List.take_add_one, hi]
  simp [holdsR]
theorem rsum_succ {f : Int → Int} {rs : Rws} {i : Nat} {p : Int × Int} (hi : rs[i]? = some p) : rsum f (rs.take (i + 1)) = rsum f (rs.take i) + f p.1 * p.2 := by
  rw [List.take_add_one, hi]
  simp [rsum]
theorem rsum_app (f : Int → Int) (a b : Rws) : rsum f (a ++ b) = rsum f a + rsum f b := by simp [rsum]
section
variable {m : Mem} {n : Nat} {c0 a b b' : Cell}
theorem at0 : (m.set n c0 ++ [a, b])[m.length]? = some a := by
  rw [List.getElem?_append_right (by simp)]
  simp
theorem at1 : (m.set n c0 ++ [a, b])[m.length + 1]? = some b := by
  rw [List.getElem?_append_right (by simp)]
  simp
theorem set1 : (m.set n c0 ++ [a, b]).set (m.length + 1) b' = m.set n c0 ++ [a, b'] := by
  rw [List.set_append_right _ _ (by simp)]
  simp
theorem len1 : (m.set n c0 ++ [a]).length = m.length + 1 := by simp
end
abbrev M2 (m : Mem) (n : Nat) (a b c : Int) (rs : Rws) (due : List Int) : Mem := m.set n (dc a b c) ++ [.lst (rs.map pairT), .lst (due.map .int)]
abbrev G (x : Int) (rs : Rws) : Int := rsum (· / x) rs
/-- the greatest q, as they lie -/
abbrev gr (rs : Rws) : Rws := (rs.mergeSort lexLe).reverse
abbrev grX (rs : Rws) (q : Nat) : Rws := rle ((sortI (expand rs)).reverse.take q)
abbrev fiX (rs : Rws) (q : Nat) : Rws := rle ((expand rs).take q)
structure FC (m : Mem) (n : Nat) (rs : Rws) : Prop where
  hm : ∃ a b c, m[n]? = some (dc a b c)
  big : Big rs 5
  ne : rs ≠ []
section
variable {k n : Nat} {m : Mem} {rs : Rws} {d4 d5 d7 d8 d9 d10 d11 d12 d13 d14 d15 d16 d17 d18 : Option D}
abbrev Far (k : Nat) (m : Mem) (n : Nat) (t : CSs) (rs : Rws) (due : List Int) (d4 d5 d7 d9 d10 d11 d12 d13 d14 d15 d16 d17 d18 : Option D) : Prop := ∀ a b c, OkS (semSs P (callN P (k + 7)) t [some (.ref n), some (.tup (S3.map .int)), some (Sc S3), some (.ref m.length), d4, d5, some (St (leanR rs)), d7, some (.ref (m.length + 1)), d9, d10, d11, d12, d13, d14, d15, d16, d17, d18] (M2 m n a b c rs due)) (QR m n)
theorem FC.ok (h : FC m n rs) : RowsOk rs := h.big.ok (by decide)
theorem FC.lok (h : FC m n rs) : RowsOk (leanR rs) := h.ok.lean
theorem FC.ex (h : FC m n rs) : expand (leanR rs) = expand rs := leanR_expand h.big.pos
theorem FC.ll (h : FC m n rs) : (leanR rs).length ≤ 5 := Nat.le_trans (leanR_len rs) h.big.len
theorem FC.hl (h : FC m n rs) : holdsR (leanR rs) = holdsR rs := by rw [holds_len (leanR_lean h.big.pos).pos, h.ex, holds_len h.big.pos]
theorem FC.rl (h : FC m n rs) (f : Int → Int) : rsum f (leanR rs) = rsum f rs := rsum_lean f h.big.pos
theorem FC.grok (h : FC m n rs) {q : Nat} : RowsOk (grX rs q) := by
  have e : leanR (firstR (gr (leanR rs)) q) = grX rs q := by
    rw [leanR_rle (firstR_pos _ _), firstR_expand h.lok.great.pos (Int.natCast_nonneg q), expand_great, h.ex, Int.toNat_natCast]
  rw [← e]
  exact (h.lok.great.first (Int.natCast_nonneg q)).lean
theorem FC.fiok (h : FC m n rs) {q : Nat} : RowsOk (fiX rs q) := by
  have e : leanR (firstR (leanR rs) q) = fiX rs q := by
    rw [leanR_rle (firstR_pos _ _), firstR_expand h.lok.pos (Int.natCast_nonneg q), h.ex, Int.toNat_natCast]
  rw [← e]
  exact (h.lok.first (Int.natCast_nonneg q)).lean
theorem G_gr (h : FC m n rs) (x : Int) (q : Nat) : G x (grX rs q) = G x (firstR (gr rs) q) := by
  unfold G
  rw [rsum_expand _ (rle_lean _).pos, rle_expand, rsum_expand _ (firstR_pos _ _), firstR_expand h.ok.great.pos (Int.natCast_nonneg q), expand_great, Int.toNat_natCast]
theorem F16 (h : FC m n rs) {q : Nat} {due : List Int} : Far k m n b31t16 rs ((G (10 ^ 25) rs - G (10 ^ 25) (firstR (gr rs) q)) :: due) d4 d5 d7 (some (.int (holdsR rs))) d10 d11 d12 d13 d14 (some (St (grX rs q))) d16 d17 d18 := by
  intro a b c
  have hll := h.ll
  have e1 : placesR S3 (grX rs q) = [G (10 ^ 25) (grX rs q), G (10 ^ 20) (grX rs q), G 1 (grX rs q)] := rfl
  have e2 : placesR S3 (leanR rs) = [G (10 ^ 25) rs, G (10 ^ 20) rs, G 1 rs] := by
    have : placesR S3 (leanR rs) = placesR S3 rs := by
      unfold placesR
      exact List.map_congr_left fun s _ => h.rl _
    rw [this]
    rfl
  have e3 : G (10 ^ 25) (grX rs q) + (G (10 ^ 25) rs - G (10 ^ 25) (firstR (gr rs) q)) = G (10 ^ 25) rs := by
    rw [G_gr h]
    omega
  simp only [b31t16, w_var, w_const, w_glob, w_op, w_nil, w_cons, w_tst, w_and, w_or, w_ife, w_chain, w_slc, w_lc, w_meth, w_meth2, w_ifs0, w_ifs1, w_over, w_range1, w_range2, w_enum, w_zip, w_expr, w_assign, w_par, w_aug, w_setIx, w_retE, w_retN, w_if, w_while, w_for, w_pass, w_brk, w_cont, w_bad, w_snil, w_scons, p_call, p_tup, p_mkT, p_mkLt, p_mkLf, p_lst, p_addI, p_addT, p_addS, p_addL, p_sub, p_mul, p_fdiv, p_mod, p_pow, p_neg, p_not, p_lt, p_le, p_gt, p_ge, p_isN, p_isnotN, p_isB, p_isnotB, p_eqI, p_neI, p_eqB, p_neB, p_len, p_lenL, p_lenC, p_ixC, p_ixT, p_ixL, p_ixR, p_max2, p_min2, p_abs, p_intI, p_intB, p_tupOf, p_listOf, p_sum, p_all, p_any, p_isI, p_isC, s_int, s_bl, s_tup, s_lst, s_str, s_non, s_ins, p_in, p_notin, t_bl, t_int, t_non, t_tup, t_lst, i_tup, i_lst, l_lst, ii_int, ii_bl, ii_tup, ii_lst, ii_str, ii_non, a_name, a_tup, a_nil, a_cons, sa_nil, sa_cons, i_at0, i_at1, i_at2, i_setR, i_ix30, i_ix31, i_ix32, i_lowI, i_lowB, i_lowN, i_lowT, p_eqT, p_neT, p_slT, p_slF, p_sl3, k_tup, k_lst, k_int, k_ins, p_app, i_isTt, i_isTl, i_isTr, l_len0, l_len1, l_len2, l_len3, l_len4, l_len5, l_len6, l_len7, l_len8, l_len9, l_len10, l_len11, l_len12, p_mulL, p_back, p_slLt, p_slLf, w_asgG, w_gName, w_gIx, w_gAttr, w_gTup, w_gNil, w_gCons, w_setAttr, p_neTP, p_eqTP, p_eqLI, p_neLI, i_recvI, Ok_ok, Ok_bad, OkS_ok, OkS_bad, OkS_then, onN_nx, onN_rt, onN_bk, onN_ct, onT_nx, onT_ct, onT_bk, onT_rt, onR_nx, onR_rt, Ok_ret, List.getElem?_cons_zero, List.getElem?_cons_succ, List.set_cons_zero, List.set_cons_succ, cut_same, Option.some.injEq, exists_eq_left', exists_eq_left, D.int.injEq, D.bl.injEq, D.tup.injEq, D.lst.injEq, D.ref.injEq, Cell.lst.injEq, Option.bind_some, Option.map_some, Bool.not_true, Bool.not_false, if_true, if_false, Bool.false_eq_true, reduceCtorEq, decide_true, decide_false, true_and, and_true, Prod.mk.injEq, and_self, String.reduceEq, Bool.or_false, Bool.false_or, Bool.or_true, Bool.true_or, Bool.and_true, Bool.true_and, Bool.and_false, Bool.false_and, reduceIte, beq_self_eq_true, s_places (k+5) S3_ok h.grok, s_places (k+5) S3_ok h.lok, e1, e2, List.map_cons, List.map_nil, i_at0, at1, e3, at_holds (k+5) (by omega : (leanR rs).length ≤ 1000), h.hl]
  exact ⟨_, _, _, cut_dcA i_lowB⟩
theorem min0 {p : Int × Int} {l : Int} (hp : 1 ≤ p.2) (h : 0 ≤ l) (x : Int) (rs : Rws) : G x (firstR (p :: rs) l) = p.1 / x * min p.2 l + G x (firstR rs (l - min p.2 l)) := by
  unfold G
  rw [firstR, rsum_app]
  by_cases z : 0 < min p.2 l
  · rw [if_pos z]
    simp [rsum]
  · rw [if_neg z]
    have : min p.2 l = 0 := by omega
    rw [this]
    simp [rsum]
theorem F15 (h : FC m n rs) {q : Nat} {due : List Int} : Far k m n b31t15 rs (G (10 ^ 25) rs :: due) d4 d5 d7 (some (.int (holdsR rs))) d10 d11 d12 d13 d14 (some (St (grX rs q))) (some (.int q)) d17 d18 := by
  intro a b c
  have hl := h.big.len
  have es : ∀ fz m', m'[m.length]? = some (.lst (rs.map pairT)) → prim P (callN P (k + 7)) (.sorted fz) [.ref m.length] m' = mkL fz ((rs.mergeSort lexLe).map pairT) m' := fun fz m' h' => sort_pairs (i_ref h') (.inr h.ne)
  have hg := h.ok.great
  simp only [b31t15, w_var, w_const, w_glob, w_op, w_nil, w_cons, w_tst, w_and, w_or, w_ife, w_chain, w_slc, w_lc, w_meth, w_meth2, w_ifs0, w_ifs1, w_over, w_range1, w_range2, w_enum, w_zip, w_expr, w_assign, w_par, w_aug, w_setIx, w_retE, w_retN, w_if, w_while, w_for, w_pass, w_brk, w_cont, w_bad, w_snil, w_scons, p_call, p_tup, p_mkT, p_mkLt, p_mkLf, p_lst, p_addI, p_addT, p_addS, p_addL, p_sub, p_mul, p_fdiv, p_mod, p_pow, p_neg, p_not, p_lt, p_le, p_gt, p_ge, p_isN, p_isnotN, p_isB, p_isnotB, p_eqI, p_neI, p_eqB, p_neB, p_len, p_lenL, p_lenC, p_ixC, p_ixT, p_ixL, p_ixR, p_max2, p_min2, p_abs, p_intI, p_intB, p_tupOf, p_listOf, p_sum, p_all, p_any, p_isI, p_isC, s_int, s_bl, s_tup, s_lst, s_str, s_non, s_ins, p_in, p_notin, t_bl, t_int, t_non, t_tup, t_lst, i_tup, i_lst, l_lst, ii_int, ii_bl, ii_tup, ii_lst, ii_str, ii_non, a_name, a_tup, a_nil, a_cons, sa_nil, sa_cons, i_at0, i_at1, i_at2, i_setR, i_ix30, i_ix31, i_ix32, i_lowI, i_lowB, i_lowN, i_lowT, p_eqT, p_neT, p_slT, p_slF, p_sl3, k_tup, k_lst, k_int, k_ins, p_app, i_isTt, i_isTl, i_isTr, l_len0, l_len1, l_len2, l_len3, l_len4, l_len5, l_len6, l_len7, l_len8, l_len9, l_len10, l_len11, l_len12, p_mulL, p_back, p_slLt, p_slLf, w_asgG, w_gName, w_gIx, w_gAttr, w_gTup, w_gNil, w_gCons, w_setAttr, p_neTP, p_eqTP, p_eqLI, p_neLI, i_recvI, Ok_ok, Ok_bad, OkS_ok, OkS_bad, OkS_then, onN_nx, onN_rt, onN_bk, onN_ct, onT_nx, onT_ct, onT_bk, onT_rt, onR_nx, onR_rt, Ok_ret, List.getElem?_cons_zero, List.getElem?_cons_succ, List.set_cons_zero, List.set_cons_succ, cut_same, Option.some.injEq, exists_eq_left', exists_eq_left, D.int.injEq, D.bl.injEq, D.tup.injEq, D.lst.injEq, D.ref.injEq, Cell.lst.injEq, Option.bind_some, Option.map_some, Bool.not_true, Bool.not_false, if_true, if_false, Bool.false_eq_true, reduceCtorEq, decide_true, decide_false, true_and, and_true, Prod.mk.injEq, and_self, String.reduceEq, Bool.or_false, Bool.false_or, Bool.or_true, Bool.true_or, Bool.and_true, Bool.true_and, Bool.and_false, Bool.false_and, reduceIte, beq_self_eq_true, es _ _ at0, List.length_map, List.length_mergeSort, ← List.map_reverse, List.length_reverse]
  refine ⟨lim40 (by omega), lim40 (by omega), for_ok (fun i ρ m' => ∃ (l e : Int) (y5 y13 y17 : Option D), ρ = [some (.ref n), some (.tup (S3.map .int)), some (Sc S3), some (.ref m.length), d4, y5, some (St (leanR rs)), d7, some (.ref (m.length + 1)), some (.int (holdsR rs)), d10, d11, d12, y13, d14, some (St (grX rs q)), some (.int l), y17, d18] ∧ m' = M2 m n a b c rs (e :: due) ∧ 0 ≤ l ∧ e - G (10 ^ 25) (firstR ((gr rs).drop i) l) = G (10 ^ 25) rs - G (10 ^ 25) (firstR (gr rs) q)) ⟨q, G (10 ^ 25) rs, d5, d13, d17, rfl, rfl, Int.natCast_nonneg q, rfl⟩ (fun _ _ _ _ => rfl) ?_ ?_⟩
  · rintro i d ρ m' hd ⟨l, e, y5, y13, y17, rfl, rfl, hl0, he⟩
    rw [List.getElem?_map, Option.map_eq_some_iff] at hd
    obtain ⟨p, hp, rfl⟩ := hd
    have hp : (gr rs)[i]? = some p := hp
    have hpm := List.mem_of_getElem? hp
    have hp1 := hg.pos p hpm
    have hp2 := (hg.all p hpm)
    have hmul : mulB (min p.2 l) (p.1 / 10 ^ 25) = true := by
      refine mulS (sm60 (by omega) (by omega)) (sm60 (Int.ediv_nonneg (by omega) (by decide)) ?_)
      have : p.1 / 10 ^ 25 ≤ p.1 := Int.ediv_le_self _ (by omega)
      omega
    have hA : (0 : Int) < 10 ^ 25 := by decide
    have hA' : Sm (10 ^ 25) = true := small (by decide +kernel)
    have e1 : atI (S3.map D.int) 0 = some (.int (10 ^ 25)) := rfl
    have e2 : ixN ((e :: due).map D.int).length 0 = some 0 := by
      unfold ixN
      rw [if_pos (by omega), if_pos (by simp <;> omega)]
      rfl
    refine ⟨_, rfl, ?_⟩
    simp only [b31x9, b31x9t1, w_var, w_const, w_glob, w_op, w_nil, w_cons, w_tst, w_and, w_or, w_ife, w_chain, w_slc, w_lc, w_meth, w_meth2, w_ifs0, w_ifs1, w_over, w_range1, w_range2, w_enum, w_zip, w_expr, w_assign, w_par, w_aug, w_setIx, w_retE, w_retN, w_if, w_while, w_for, w_pass, w_brk, w_cont, w_bad, w_snil, w_scons, p_call, p_tup, p_mkT, p_mkLt, p_mkLf, p_lst, p_addI, p_addT, p_addS, p_addL, p_sub, p_mul, p_fdiv, p_mod, p_pow, p_neg, p_not, p_lt, p_le, p_gt, p_ge, p_isN, p_isnotN, p_isB, p_isnotB, p_eqI, p_neI, p_eqB, p_neB, p_len, p_lenL, p_lenC, p_ixC, p_ixT, p_ixL, p_ixR, p_max2, p_min2, p_abs, p_intI, p_intB, p_tupOf, p_listOf, p_sum, p_all, p_any, p_isI, p_isC, s_int, s_bl, s_tup, s_lst, s_str, s_non, s_ins, p_in, p_notin, t_bl, t_int, t_non, t_tup, t_lst, i_tup, i_lst, l_lst, ii_int, ii_bl, ii_tup, ii_lst, ii_str, ii_non, a_name, a_tup, a_nil, a_cons, sa_nil, sa_cons, i_at0, i_at1, i_at2, i_setR, i_ix30, i_ix31, i_ix32, i_lowI, i_lowB, i_lowN, i_lowT, p_eqT, p_neT, p_slT, p_slF, p_sl3, k_tup, k_lst, k_int, k_ins, p_app, i_isTt, i_isTl, i_isTr, l_len0, l_len1, l_len2, l_len3, l_len4, l_len5, l_len6, l_len7, l_len8, l_len9, l_len10, l_len11, l_len12, p_mulL, p_back, p_slLt, p_slLf, w_asgG, w_gName, w_gIx, w_gAttr, w_gTup, w_gNil, w_gCons, w_setAttr, p_neTP, p_eqTP, p_eqLI, p_neLI, i_recvI, Ok_ok, Ok_bad, OkS_ok, OkS_bad, OkS_then, onN_nx, onN_rt, onN_bk, onN_ct, onT_nx, onT_ct, onT_bk, onT_rt, onR_nx, onR_rt, Ok_ret, List.getElem?_cons_zero, List.getElem?_cons_succ, List.set_cons_zero, List.set_cons_succ, cut_same, Option.some.injEq, exists_eq_left', exists_eq_left, D.int.injEq, D.bl.injEq, D.tup.injEq, D.lst.injEq, D.ref.injEq, Cell.lst.injEq, Option.bind_some, Option.map_some, Bool.not_true, Bool.not_false, if_true, if_false, Bool.false_eq_true, reduceCtorEq, decide_true, decide_false, true_and, and_true, Prod.mk.injEq, and_self, String.reduceEq, Bool.or_false, Bool.false_or, Bool.or_true, Bool.true_or, Bool.and_true, Bool.true_and, Bool.and_false, Bool.false_and, reduceIte, beq_self_eq_true, min_if, at1, e1, hA, hA', hmul, List.map_cons, i_at0, w_gTup]
    simp only [List.map_cons] at e2
    simp only [e2, w_var, w_const, w_glob, w_op, w_nil, w_cons, w_tst, w_and, w_or, w_ife, w_chain, w_slc, w_lc, w_meth, w_meth2, w_ifs0, w_ifs1, w_over, w_range1, w_range2, w_enum, w_zip, w_expr, w_assign, w_par, w_aug, w_setIx, w_retE, w_retN, w_if, w_while, w_for, w_pass, w_brk, w_cont, w_bad, w_snil, w_scons, p_call, p_tup, p_mkT, p_mkLt, p_mkLf, p_lst, p_addI, p_addT, p_addS, p_addL, p_sub, p_mul, p_fdiv, p_mod, p_pow, p_neg, p_not, p_lt, p_le, p_gt, p_ge, p_isN, p_isnotN, p_isB, p_isnotB, p_eqI, p_neI, p_eqB, p_neB, p_len, p_lenL, p_lenC, p_ixC, p_ixT, p_ixL, p_ixR, p_max2, p_min2, p_abs, p_intI, p_intB, p_tupOf, p_listOf, p_sum, p_all, p_any, p_isI, p_isC, s_int, s_bl, s_tup, s_lst, s_str, s_non, s_ins, p_in, p_notin, t_bl, t_int, t_non, t_tup, t_lst, i_tup, i_lst, l_lst, ii_int, ii_bl, ii_tup, ii_lst, ii_str, ii_non, a_name, a_tup, a_nil, a_cons, sa_nil, sa_cons, i_at0, i_at1, i_at2, i_setR, i_ix30, i_ix31, i_ix32, i_lowI, i_lowB, i_lowN, i_lowT, p_eqT, p_neT, p_slT, p_slF, p_sl3, k_tup, k_lst, k_int, k_ins, p_app, i_isTt, i_isTl, i_isTr, l_len0, l_len1, l_len2, l_len3, l_len4, l_len5, l_len6, l_len7, l_len8, l_len9, l_len10, l_len11, l_len12, p_mulL, p_back, p_slLt, p_slLf, w_asgG, w_gName, w_gIx, w_gAttr, w_gTup, w_gNil, w_gCons, w_setAttr, p_neTP, p_eqTP, p_eqLI, p_neLI, i_recvI, Ok_ok, Ok_bad, OkS_ok, OkS_bad, OkS_then, onN_nx, onN_rt, onN_bk, onN_ct, onT_nx, onT_ct, onT_bk, onT_rt, onR_nx, onR_rt, Ok_ret, List.getElem?_cons_zero, List.getElem?_cons_succ, List.set_cons_zero, List.set_cons_succ, cut_same, Option.some.injEq, exists_eq_left', exists_eq_left, D.int.injEq, D.bl.injEq, D.tup.injEq, D.lst.injEq, D.ref.injEq, Cell.lst.injEq, Option.bind_some, Option.map_some, Bool.not_true, Bool.not_false, if_true, if_false, Bool.false_eq_true, reduceCtorEq, decide_true, decide_false, true_and, and_true, Prod.mk.injEq, and_self, String.reduceEq, Bool.or_false, Bool.false_or, Bool.or_true, Bool.true_or, Bool.and_true, Bool.true_and, Bool.and_false, Bool.false_and, reduceIte, beq_self_eq_true, set1]
    rw [drop_at hp, min0 hp1 hl0] at he
    refine ⟨l - min p.2 l, e - min p.2 l * (p.1 / 10 ^ 25), some (.int p.1), some (.int p.2), some (.int (min p.2 l)), rfl, rfl, by omega, ?_⟩
    rw [Int.mul_comm (min p.2 l)]
    omega
  · rintro ρ m' ⟨l, e, y5, y13, y17, rfl, rfl, hl0, he⟩
    rw [List.length_map, List.drop_length] at he
    have : e = G (10 ^ 25) rs - G (10 ^ 25) (firstR (gr rs) q) := by
      rw [← he]
      simp [firstR, G, rsum]
    subst this
    exact F16 h a b c
theorem F14 (h : FC m n rs) {q : Nat} {due : List Int} : Far k m n b31t14 rs (G (10 ^ 25) rs :: due) d4 d5 d7 (some (.int (holdsR rs))) (some (.int q)) d11 d12 d13 d14 (some (St (grX rs q))) d16 d17 d18 := by
  intro a b c
  simp only [b31t14, w_var, w_const, w_glob, w_op, w_nil, w_cons, w_tst, w_and, w_or, w_ife, w_chain, w_slc, w_lc, w_meth, w_meth2, w_ifs0, w_ifs1, w_over, w_range1, w_range2, w_enum, w_zip, w_expr, w_assign, w_par, w_aug, w_setIx, w_retE, w_retN, w_if, w_while, w_for, w_pass, w_brk, w_cont, w_bad, w_snil, w_scons, p_call, p_tup, p_mkT, p_mkLt, p_mkLf, p_lst, p_addI, p_addT, p_addS, p_addL, p_sub, p_mul, p_fdiv, p_mod, p_pow, p_neg, p_not, p_lt, p_le, p_gt, p_ge, p_isN, p_isnotN, p_isB, p_isnotB, p_eqI, p_neI, p_eqB, p_neB, p_len, p_lenL, p_lenC, p_ixC, p_ixT, p_ixL, p_ixR, p_max2, p_min2, p_abs, p_intI, p_intB, p_tupOf, p_listOf, p_sum, p_all, p_any, p_isI, p_isC, s_int, s_bl, s_tup, s_lst, s_str, s_non, s_ins, p_in, p_notin, t_bl, t_int, t_non, t_tup, t_lst, i_tup, i_lst, l_lst, ii_int, ii_bl, ii_tup, ii_lst, ii_str, ii_non, a_name, a_tup, a_nil, a_cons, sa_nil, sa_cons, i_at0, i_at1, i_at2, i_setR, i_ix30, i_ix31, i_ix32, i_lowI, i_lowB, i_lowN, i_lowT, p_eqT, p_neT, p_slT, p_slF, p_sl3, k_tup, k_lst, k_int, k_ins, p_app, i_isTt, i_isTl, i_isTr, l_len0, l_len1, l_len2, l_len3, l_len4, l_len5, l_len6, l_len7, l_len8, l_len9, l_len10, l_len11, l_len12, p_mulL, p_back, p_slLt, p_slLf, w_asgG, w_gName, w_gIx, w_gAttr, w_gTup, w_gNil, w_gCons, w_setAttr, p_neTP, p_eqTP, p_eqLI, p_neLI, i_recvI, Ok_ok, Ok_bad, OkS_ok, OkS_bad, OkS_then, onN_nx, onN_rt, onN_bk, onN_ct, onT_nx, onT_ct, onT_bk, onT_rt, onR_nx, onR_rt, Ok_ret, List.getElem?_cons_zero, List.getElem?_cons_succ, List.set_cons_zero, List.set_cons_succ, cut_same, Option.some.injEq, exists_eq_left', exists_eq_left, D.int.injEq, D.bl.injEq, D.tup.injEq, D.lst.injEq, D.ref.injEq, Cell.lst.injEq, Option.bind_some, Option.map_some, Bool.not_true, Bool.not_false, if_true, if_false, Bool.false_eq_true, reduceCtorEq, decide_true, decide_false, true_and, and_true, Prod.mk.injEq, and_self, String.reduceEq, Bool.or_false, Bool.false_or, Bool.or_true, Bool.true_or, Bool.and_true, Bool.true_and, Bool.and_false, Bool.false_and, reduceIte, beq_self_eq_true]
  exact F15 h a b c
theorem F13 (h : FC m n rs) {q : Nat} (hq : (q : Int) ≤ holdsR rs) {due : List Int} : Far k m n b31t13 rs (G (10 ^ 25) rs :: due) d4 d5 d7 (some (.int (holdsR rs))) (some (.int q)) d11 d12 d13 (some (St (fiX rs q))) (some (St (grX rs q))) d16 d17 d18 := by
  intro a b c
  have hx : q ≤ (expand rs).length := by
    rw [holds_len h.big.pos] at hq
    omega
  have f1 := h.fiok (q := q)
  have g1 := h.grok (q := q)
  have l1 := f1.len
  have l2 := g1.len
  have e1 : holdsR (fiX rs q) = q := by
    rw [holds_len (rle_lean _).pos, rle_expand, List.length_take]
    omega
  have e2 : holdsR (grX rs q) = q := by
    rw [holds_len (rle_lean _).pos, rle_expand, List.length_take, List.length_reverse]
    have : (sortI (expand rs)).length = (expand rs).length := List.length_mergeSort ..
    omega
  have e3 : ¬ rsum id (grX rs q) < rsum id (fiX rs q) := by
    rw [rsum_expand _ (rle_lean _).pos, rle_expand, rsum_expand _ (rle_lean _).pos, rle_expand, List.map_id, List.map_id]
    have := great_sum (expand rs) hx
    omega
  simp only [b31t13, w_var, w_const, w_glob, w_op, w_nil, w_cons, w_tst, w_and, w_or, w_ife, w_chain, w_slc, w_lc, w_meth, w_meth2, w_ifs0, w_ifs1, w_over, w_range1, w_range2, w_enum, w_zip, w_expr, w_assign, w_par, w_aug, w_setIx, w_retE, w_retN, w_if, w_while, w_for, w_pass, w_brk, w_cont, w_bad, w_snil, w_scons, p_call, p_tup, p_mkT, p_mkLt, p_mkLf, p_lst, p_addI, p_addT, p_addS, p_addL, p_sub, p_mul, p_fdiv, p_mod, p_pow, p_neg, p_not, p_lt, p_le, p_gt, p_ge, p_isN, p_isnotN, p_isB, p_isnotB, p_eqI, p_neI, p_eqB, p_neB, p_len, p_lenL, p_lenC, p_ixC, p_ixT, p_ixL, p_ixR, p_max2, p_min2, p_abs, p_intI, p_intB, p_tupOf, p_listOf, p_sum, p_all, p_any, p_isI, p_isC, s_int, s_bl, s_tup, s_lst, s_str, s_non, s_ins, p_in, p_notin, t_bl, t_int, t_non, t_tup, t_lst, i_tup, i_lst, l_lst, ii_int, ii_bl, ii_tup, ii_lst, ii_str, ii_non, a_name, a_tup, a_nil, a_cons, sa_nil, sa_cons, i_at0, i_at1, i_at2, i_setR, i_ix30, i_ix31, i_ix32, i_lowI, i_lowB, i_lowN, i_lowT, p_eqT, p_neT, p_slT, p_slF, p_sl3, k_tup, k_lst, k_int, k_ins, p_app, i_isTt, i_isTl, i_isTr, l_len0, l_len1, l_len2, l_len3, l_len4, l_len5, l_len6, l_len7, l_len8, l_len9, l_len10, l_len11, l_len12, p_mulL, p_back, p_slLt, p_slLf, w_asgG, w_gName, w_gIx, w_gAttr, w_gTup, w_gNil, w_gCons, w_setAttr, p_neTP, p_eqTP, p_eqLI, p_neLI, i_recvI, Ok_ok, Ok_bad, OkS_ok, OkS_bad, OkS_then, onN_nx, onN_rt, onN_bk, onN_ct, onT_nx, onT_ct, onT_bk, onT_rt, onR_nx, onR_rt, Ok_ret, List.getElem?_cons_zero, List.getElem?_cons_succ, List.set_cons_zero, List.set_cons_succ, cut_same, Option.some.injEq, exists_eq_left', exists_eq_left, D.int.injEq, D.bl.injEq, D.tup.injEq, D.lst.injEq, D.ref.injEq, Cell.lst.injEq, Option.bind_some, Option.map_some, Bool.not_true, Bool.not_false, if_true, if_false, Bool.false_eq_true, reduceCtorEq, decide_true, decide_false, true_and, and_true, Prod.mk.injEq, and_self, String.reduceEq, Bool.or_false, Bool.false_or, Bool.or_true, Bool.true_or, Bool.and_true, Bool.true_and, Bool.and_false, Bool.false_and, reduceIte, beq_self_eq_true, at_holds (k+5) (by omega : (fiX rs q).length ≤ 1000), at_holds (k+5) (by omega : (grX rs q).length ≤ 1000), e1, e2, at_room (k+5) (by omega : (fiX rs q).length ≤ 1000) f1.sm, at_room (k+5) (by omega : (grX rs q).length ≤ 1000) g1.sm, e3]
  exact F14 h a b c
theorem F11 (h : FC m n rs) {q : Nat} (hq : (q : Int) ≤ holdsR rs) {due : List Int} : Far k m n b31t11 rs (G (10 ^ 25) rs :: due) d4 d5 d7 (some (.int (holdsR rs))) (some (.int q)) d11 d12 d13 d14 d15 d16 d17 d18 := by
  intro a b c
  have hq' : (q : Int) ≤ holdsR (leanR rs) := by rw [h.hl]; exact hq
  simp only [b31t11, b31t12, w_var, w_const, w_glob, w_op, w_nil, w_cons, w_tst, w_and, w_or, w_ife, w_chain, w_slc, w_lc, w_meth, w_meth2, w_ifs0, w_ifs1, w_over, w_range1, w_range2, w_enum, w_zip, w_expr, w_assign, w_par, w_aug, w_setIx, w_retE, w_retN, w_if, w_while, w_for, w_pass, w_brk, w_cont, w_bad, w_snil, w_scons, p_call, p_tup, p_mkT, p_mkLt, p_mkLf, p_lst, p_addI, p_addT, p_addS, p_addL, p_sub, p_mul, p_fdiv, p_mod, p_pow, p_neg, p_not, p_lt, p_le, p_gt, p_ge, p_isN, p_isnotN, p_isB, p_isnotB, p_eqI, p_neI, p_eqB, p_neB, p_len, p_lenL, p_lenC, p_ixC, p_ixT, p_ixL, p_ixR, p_max2, p_min2, p_abs, p_intI, p_intB, p_tupOf, p_listOf, p_sum, p_all, p_any, p_isI, p_isC, s_int, s_bl, s_tup, s_lst, s_str, s_non, s_ins, p_in, p_notin, t_bl, t_int, t_non, t_tup, t_lst, i_tup, i_lst, l_lst, ii_int, ii_bl, ii_tup, ii_lst, ii_str, ii_non, a_name, a_tup, a_nil, a_cons, sa_nil, sa_cons, i_at0, i_at1, i_at2, i_setR, i_ix30, i_ix31, i_ix32, i_lowI, i_lowB, i_lowN, i_lowT, p_eqT, p_neT, p_slT, p_slF, p_sl3, k_tup, k_lst, k_int, k_ins, p_app, i_isTt, i_isTl, i_isTr, l_len0, l_len1, l_len2, l_len3, l_len4, l_len5, l_len6, l_len7, l_len8, l_len9, l_len10, l_len11, l_len12, p_mulL, p_back, p_slLt, p_slLf, w_asgG, w_gName, w_gIx, w_gAttr, w_gTup, w_gNil, w_gCons, w_setAttr, p_neTP, p_eqTP, p_eqLI, p_neLI, i_recvI, Ok_ok, Ok_bad, OkS_ok, OkS_bad, OkS_then, onN_nx, onN_rt, onN_bk, onN_ct, onT_nx, onT_ct, onT_bk, onT_rt, onR_nx, onR_rt, Ok_ret, List.getElem?_cons_zero, List.getElem?_cons_succ, List.set_cons_zero, List.set_cons_succ, cut_same, Option.some.injEq, exists_eq_left', exists_eq_left, D.int.injEq, D.bl.injEq, D.tup.injEq, D.lst.injEq, D.ref.injEq, Cell.lst.injEq, Option.bind_some, Option.map_some, Bool.not_true, Bool.not_false, if_true, if_false, Bool.false_eq_true, reduceCtorEq, decide_true, decide_false, true_and, and_true, Prod.mk.injEq, and_self, String.reduceEq, Bool.or_false, Bool.false_or, Bool.or_true, Bool.true_or, Bool.and_true, Bool.true_and, Bool.and_false, Bool.false_and, reduceIte, beq_self_eq_true, s_first_holds (k+1) h.lok (Int.natCast_nonneg q) hq', s_greatest_holds (k+1) h.lok (Int.natCast_nonneg q) hq', h.ex, Int.toNat_natCast]
  exact F13 h hq a b c
theorem F10 (h : FC m n rs) {q : Nat} (hq : (q : Int) < holdsR rs) {due : List Int} : Far k m n b31t10 rs (G (10 ^ 25) rs :: due) d4 d5 d7 (some (.int (holdsR rs))) (some (.int q)) (some (.int 0)) (some (.int 0)) d13 d14 d15 d16 d17 d18 := by
  intro a b c
  simp only [b31t10, w_var, w_const, w_glob, w_op, w_nil, w_cons, w_tst, w_and, w_or, w_ife, w_chain, w_slc, w_lc, w_meth, w_meth2, w_ifs0, w_ifs1, w_over, w_range1, w_range2, w_enum, w_zip, w_expr, w_assign, w_par, w_aug, w_setIx, w_retE, w_retN, w_if, w_while, w_for, w_pass, w_brk, w_cont, w_bad, w_snil, w_scons, p_call, p_tup, p_mkT, p_mkLt, p_mkLf, p_lst, p_addI, p_addT, p_addS, p_addL, p_sub, p_mul, p_fdiv, p_mod, p_pow, p_neg, p_not, p_lt, p_le, p_gt, p_ge, p_isN, p_isnotN, p_isB, p_isnotB, p_eqI, p_neI, p_eqB, p_neB, p_len, p_lenL, p_lenC, p_ixC, p_ixT, p_ixL, p_ixR, p_max2, p_min2, p_abs, p_intI, p_intB, p_tupOf, p_listOf, p_sum, p_all, p_any, p_isI, p_isC, s_int, s_bl, s_tup, s_lst, s_str, s_non, s_ins, p_in, p_notin, t_bl, t_int, t_non, t_tup, t_lst, i_tup, i_lst, l_lst, ii_int, ii_bl, ii_tup, ii_lst, ii_str, ii_non, a_name, a_tup, a_nil, a_cons, sa_nil, sa_cons, i_at0, i_at1, i_at2, i_setR, i_ix30, i_ix31, i_ix32, i_lowI, i_lowB, i_lowN, i_lowT, p_eqT, p_neT, p_slT, p_slF, p_sl3, k_tup, k_lst, k_int, k_ins, p_app, i_isTt, i_isTl, i_isTr, l_len0, l_len1, l_len2, l_len3, l_len4, l_len5, l_len6, l_len7, l_len8, l_len9, l_len10, l_len11, l_len12, p_mulL, p_back, p_slLt, p_slLf, w_asgG, w_gName, w_gIx, w_gAttr, w_gTup, w_gNil, w_gCons, w_setAttr, p_neTP, p_eqTP, p_eqLI, p_neLI, i_recvI, Ok_ok, Ok_bad, OkS_ok, OkS_bad, OkS_then, onN_nx, onN_rt, onN_bk, onN_ct, onT_nx, onT_ct, onT_bk, onT_rt, onR_nx, onR_rt, Ok_ret, List.getElem?_cons_zero, List.getElem?_cons_succ, List.set_cons_zero, List.set_cons_succ, cut_same, Option.some.injEq, exists_eq_left', exists_eq_left, D.int.injEq, D.bl.injEq, D.tup.injEq, D.lst.injEq, D.ref.injEq, Cell.lst.injEq, Option.bind_some, Option.map_some, Bool.not_true, Bool.not_false, if_true, if_false, Bool.false_eq_true, reduceCtorEq, decide_true, decide_false, true_and, and_true, Prod.mk.injEq, and_self, String.reduceEq, Bool.or_false, Bool.false_or, Bool.or_true, Bool.true_or, Bool.and_true, Bool.true_and, Bool.and_false, Bool.false_and, reduceIte, beq_self_eq_true, i_ref at0]
  refine for_ok (fun i ρ m' => ∃ (y5 y13 : Option D), ρ = [some (.ref n), some (.tup (S3.map .int)), some (Sc S3), some (.ref m.length), d4, y5, some (St (leanR rs)), d7, some (.ref (m.length + 1)), some (.int (holdsR rs)), some (.int q), some (.int (holdsR (rs.take i))), some (.int (rsum id (rs.take i))), y13, d14, d15, d16, d17, d18] ∧ m' = M2 m n a b c rs (G (10 ^ 25) rs :: due)) ⟨d5, d13, by simp [holdsR, rsum], rfl⟩ ?_ ?_ ?_
  · rintro i ρ m' ⟨y5, y13, rfl, rfl⟩
    simp only [stands, i_ref at0, decide_true]
  · rintro i d ρ m' hd ⟨y5, y13, rfl, rfl⟩
    rw [List.getElem?_map, Option.map_eq_some_iff] at hd
    obtain ⟨p, hp, rfl⟩ := hd
    have hpm := List.mem_of_getElem? hp
    have hp1 := h.big.pos p hpm
    have hp2 := (h.big.all p hpm)
    have sm := h.ok.sm p hpm
    refine ⟨_, rfl, ?_⟩
    have es := holds_succ hp
    have er := rsum_succ (f := id) hp
    simp only [id] at er
    have hmul : mulB p.1 p.2 = true := mulS sm.1 sm.2
    simp only [b31x4, b31x5, b31x5t1, b31x4t1, w_var, w_const, w_glob, w_op, w_nil, w_cons, w_tst, w_and, w_or, w_ife, w_chain, w_slc, w_lc, w_meth, w_meth2, w_ifs0, w_ifs1, w_over, w_range1, w_range2, w_enum, w_zip, w_expr, w_assign, w_par, w_aug, w_setIx, w_retE, w_retN, w_if, w_while, w_for, w_pass, w_brk, w_cont, w_bad, w_snil, w_scons, p_call, p_tup, p_mkT, p_mkLt, p_mkLf, p_lst, p_addI, p_addT, p_addS, p_addL, p_sub, p_mul, p_fdiv, p_mod, p_pow, p_neg, p_not, p_lt, p_le, p_gt, p_ge, p_isN, p_isnotN, p_isB, p_isnotB, p_eqI, p_neI, p_eqB, p_neB, p_len, p_lenL, p_lenC, p_ixC, p_ixT, p_ixL, p_ixR, p_max2, p_min2, p_abs, p_intI, p_intB, p_tupOf, p_listOf, p_sum, p_all, p_any, p_isI, p_isC, s_int, s_bl, s_tup, s_lst, s_str, s_non, s_ins, p_in, p_notin, t_bl, t_int, t_non, t_tup, t_lst, i_tup, i_lst, l_lst, ii_int, ii_bl, ii_tup, ii_lst, ii_str, ii_non, a_name, a_tup, a_nil, a_cons, sa_nil, sa_cons, i_at0, i_at1, i_at2, i_setR, i_ix30, i_ix31, i_ix32, i_lowI, i_lowB, i_lowN, i_lowT, p_eqT, p_neT, p_slT, p_slF, p_sl3, k_tup, k_lst, k_int, k_ins, p_app, i_isTt, i_isTl, i_isTr, l_len0, l_len1, l_len2, l_len3, l_len4, l_len5, l_len6, l_len7, l_len8, l_len9, l_len10, l_len11, l_len12, p_mulL, p_back, p_slLt, p_slLf, w_asgG, w_gName, w_gIx, w_gAttr, w_gTup, w_gNil, w_gCons, w_setAttr, p_neTP, p_eqTP, p_eqLI, p_neLI, i_recvI, Ok_ok, Ok_bad, OkS_ok, OkS_bad, OkS_then, onN_nx, onN_rt, onN_bk, onN_ct, onT_nx, onT_ct, onT_bk, onT_rt, onR_nx, onR_rt, Ok_ret, List.getElem?_cons_zero, List.getElem?_cons_succ, List.set_cons_zero, List.set_cons_succ, cut_same, Option.some.injEq, exists_eq_left', exists_eq_left, D.int.injEq, D.bl.injEq, D.tup.injEq, D.lst.injEq, D.ref.injEq, Cell.lst.injEq, Option.bind_some, Option.map_some, Bool.not_true, Bool.not_false, if_true, if_false, Bool.false_eq_true, reduceCtorEq, decide_true, decide_false, true_and, and_true, Prod.mk.injEq, and_self, String.reduceEq, Bool.or_false, Bool.false_or, Bool.or_true, Bool.true_or, Bool.and_true, Bool.true_and, Bool.and_false, Bool.false_and, reduceIte, beq_self_eq_true, hmul]
    by_cases h1 : holdsR (rs.take i) ≤ q
    · by_cases h2 : (q : Int) < holdsR (rs.take i) + p.2
      · obtain ⟨g1, g2⟩ := seg h.big.pos hp h1 h2
        simp only [h1, h2, w_var, w_const, w_glob, w_op, w_nil, w_cons, w_tst, w_and, w_or, w_ife, w_chain, w_slc, w_lc, w_meth, w_meth2, w_ifs0, w_ifs1, w_over, w_range1, w_range2, w_enum, w_zip, w_expr, w_assign, w_par, w_aug, w_setIx, w_retE, w_retN, w_if, w_while, w_for, w_pass, w_brk, w_cont, w_bad, w_snil, w_scons, p_call, p_tup, p_mkT, p_mkLt, p_mkLf, p_lst, p_addI, p_addT, p_addS, p_addL, p_sub, p_mul, p_fdiv, p_mod, p_pow, p_neg, p_not, p_lt, p_le, p_gt, p_ge, p_isN, p_isnotN, p_isB, p_isnotB, p_eqI, p_neI, p_eqB, p_neB, p_len, p_lenL, p_lenC, p_ixC, p_ixT, p_ixL, p_ixR, p_max2, p_min2, p_abs, p_intI, p_intB, p_tupOf, p_listOf, p_sum, p_all, p_any, p_isI, p_isC, s_int, s_bl, s_tup, s_lst, s_str, s_non, s_ins, p_in, p_notin, t_bl, t_int, t_non, t_tup, t_lst, i_tup, i_lst, l_lst, ii_int, ii_bl, ii_tup, ii_lst, ii_str, ii_non, a_name, a_tup, a_nil, a_cons, sa_nil, sa_cons, i_at0, i_at1, i_at2, i_setR, i_ix30, i_ix31, i_ix32, i_lowI, i_lowB, i_lowN, i_lowT, p_eqT, p_neT, p_slT, p_slF, p_sl3, k_tup, k_lst, k_int, k_ins, p_app, i_isTt, i_isTl, i_isTr, l_len0, l_len1, l_len2, l_len3, l_len4, l_len5, l_len6, l_len7, l_len8, l_len9, l_len10, l_len11, l_len12, p_mulL, p_back, p_slLt, p_slLf, w_asgG, w_gName, w_gIx, w_gAttr, w_gTup, w_gNil, w_gCons, w_setAttr, p_neTP, p_eqTP, p_eqLI, p_neLI, i_recvI, Ok_ok, Ok_bad, OkS_ok, OkS_bad, OkS_then, onN_nx, onN_rt, onN_bk, onN_ct, onT_nx, onT_ct, onT_bk, onT_rt, onR_nx, onR_rt, Ok_ret, List.getElem?_cons_zero, List.getElem?_cons_succ, List.set_cons_zero, List.set_cons_succ, cut_same, Option.some.injEq, exists_eq_left', exists_eq_left, D.int.injEq, D.bl.injEq, D.tup.injEq, D.lst.injEq, D.ref.injEq, Cell.lst.injEq, Option.bind_some, Option.map_some, Bool.not_true, Bool.not_false, if_true, if_false, Bool.false_eq_true, reduceCtorEq, decide_true, decide_false, true_and, and_true, Prod.mk.injEq, and_self, String.reduceEq, Bool.or_false, Bool.false_or, Bool.or_true, Bool.true_or, Bool.and_true, Bool.true_and, Bool.and_false, Bool.false_and, reduceIte, beq_self_eq_true]
        refine ⟨_, _, rfl, m_room_of, ?_⟩
        have hx : (expand (leanR rs))[q]? = some p.1 := by rw [h.ex]; exact g1
        have t1 : At (expand (leanR rs)) q 0 (rsum id (rs.take i) + (q - holdsR (rs.take i)) * p.1) := by
          rw [h.ex]
          exact ⟨⟨_, g1, by omega⟩, by omega, by rw [g2]; omega⟩
        have t2 : At (expand (leanR rs)) q (p.1 - 1) (rsum id (rs.take i) + (q - holdsR (rs.take i) + 1) * p.1 - 1) := by
          rw [h.ex]
          refine ⟨⟨_, g1, by omega⟩, by omega, ?_⟩
          rw [g2, Int.add_mul _ 1 p.1]
          omega
        have m1 : mulB ((q : Int) - holdsR (rs.take i)) p.1 = true := mulS (sm60 (by omega) (by have := (h.ok.all p hpm).2.2; omega)) sm.1
        have m2 : mulB ((q : Int) - holdsR (rs.take i) + 1) p.1 = true := mulS (sm60 (by omega) (by have := (h.ok.all p hpm).2.2; omega)) sm.1
        simp only [s_room_of (k+3) h.lok hx, w_var, w_const, w_glob, w_op, w_nil, w_cons, w_tst, w_and, w_or, w_ife, w_chain, w_slc, w_lc, w_meth, w_meth2, w_ifs0, w_ifs1, w_over, w_range1, w_range2, w_enum, w_zip, w_expr, w_assign, w_par, w_aug, w_setIx, w_retE, w_retN, w_if, w_while, w_for, w_pass, w_brk, w_cont, w_bad, w_snil, w_scons, p_call, p_tup, p_mkT, p_mkLt, p_mkLf, p_lst, p_addI, p_addT, p_addS, p_addL, p_sub, p_mul, p_fdiv, p_mod, p_pow, p_neg, p_not, p_lt, p_le, p_gt, p_ge, p_isN, p_isnotN, p_isB, p_isnotB, p_eqI, p_neI, p_eqB, p_neB, p_len, p_lenL, p_lenC, p_ixC, p_ixT, p_ixL, p_ixR, p_max2, p_min2, p_abs, p_intI, p_intB, p_tupOf, p_listOf, p_sum, p_all, p_any, p_isI, p_isC, s_int, s_bl, s_tup, s_lst, s_str, s_non, s_ins, p_in, p_notin, t_bl, t_int, t_non, t_tup, t_lst, i_tup, i_lst, l_lst, ii_int, ii_bl, ii_tup, ii_lst, ii_str, ii_non, a_name, a_tup, a_nil, a_cons, sa_nil, sa_cons, i_at0, i_at1, i_at2, i_setR, i_ix30, i_ix31, i_ix32, i_lowI, i_lowB, i_lowN, i_lowT, p_eqT, p_neT, p_slT, p_slF, p_sl3, k_tup, k_lst, k_int, k_ins, p_app, i_isTt, i_isTl, i_isTr, l_len0, l_len1, l_len2, l_len3, l_len4, l_len5, l_len6, l_len7, l_len8, l_len9, l_len10, l_len11, l_len12, p_mulL, p_back, p_slLt, p_slLf, w_asgG, w_gName, w_gIx, w_gAttr, w_gTup, w_gNil, w_gCons, w_setAttr, p_neTP, p_eqTP, p_eqLI, p_neLI, i_recvI, Ok_ok, Ok_bad, OkS_ok, OkS_bad, OkS_then, onN_nx, onN_rt, onN_bk, onN_ct, onT_nx, onT_ct, onT_bk, onT_rt, onR_nx, onR_rt, Ok_ret, List.getElem?_cons_zero, List.getElem?_cons_succ, List.set_cons_zero, List.set_cons_succ, cut_same, Option.some.injEq, exists_eq_left', exists_eq_left, D.int.injEq, D.bl.injEq, D.tup.injEq, D.lst.injEq, D.ref.injEq, Cell.lst.injEq, Option.bind_some, Option.map_some, Bool.not_true, Bool.not_false, if_true, if_false, Bool.false_eq_true, reduceCtorEq, decide_true, decide_false, true_and, and_true, Prod.mk.injEq, and_self, String.reduceEq, Bool.or_false, Bool.false_or, Bool.or_true, Bool.true_or, Bool.and_true, Bool.true_and, Bool.and_false, Bool.false_and, reduceIte, beq_self_eq_true, m1, m2, s_hold_at (k+3) h.lok t1, s_hold_at (k+3) h.lok t2, p_neP (pl_pair _ _) (pl_pair _ _)]
        rw [es, er]
        exact ⟨_, _, rfl⟩
      · simp only [h1, h2, w_var, w_const, w_glob, w_op, w_nil, w_cons, w_tst, w_and, w_or, w_ife, w_chain, w_slc, w_lc, w_meth, w_meth2, w_ifs0, w_ifs1, w_over, w_range1, w_range2, w_enum, w_zip, w_expr, w_assign, w_par, w_aug, w_setIx, w_retE, w_retN, w_if, w_while, w_for, w_pass, w_brk, w_cont, w_bad, w_snil, w_scons, p_call, p_tup, p_mkT, p_mkLt, p_mkLf, p_lst, p_addI, p_addT, p_addS, p_addL, p_sub, p_mul, p_fdiv, p_mod, p_pow, p_neg, p_not, p_lt, p_le, p_gt, p_ge, p_isN, p_isnotN, p_isB, p_isnotB, p_eqI, p_neI, p_eqB, p_neB, p_len, p_lenL, p_lenC, p_ixC, p_ixT, p_ixL, p_ixR, p_max2, p_min2, p_abs, p_intI, p_intB, p_tupOf, p_listOf, p_sum, p_all, p_any, p_isI, p_isC, s_int, s_bl, s_tup, s_lst, s_str, s_non, s_ins, p_in, p_notin, t_bl, t_int, t_non, t_tup, t_lst, i_tup, i_lst, l_lst, ii_int, ii_bl, ii_tup, ii_lst, ii_str, ii_non, a_name, a_tup, a_nil, a_cons, sa_nil, sa_cons, i_at0, i_at1, i_at2, i_setR, i_ix30, i_ix31, i_ix32, i_lowI, i_lowB, i_lowN, i_lowT, p_eqT, p_neT, p_slT, p_slF, p_sl3, k_tup, k_lst, k_int, k_ins, p_app, i_isTt, i_isTl, i_isTr, l_len0, l_len1, l_len2, l_len3, l_len4, l_len5, l_len6, l_len7, l_len8, l_len9, l_len10, l_len11, l_len12, p_mulL, p_back, p_slLt, p_slLf, w_asgG, w_gName, w_gIx, w_gAttr, w_gTup, w_gNil, w_gCons, w_setAttr, p_neTP, p_eqTP, p_eqLI, p_neLI, i_recvI, Ok_ok, Ok_bad, OkS_ok, OkS_bad, OkS_then, onN_nx, onN_rt, onN_bk, onN_ct, onT_nx, onT_ct, onT_bk, onT_rt, onR_nx, onR_rt, Ok_ret, List.getElem?_cons_zero, List.getElem?_cons_succ, List.set_cons_zero, List.set_cons_succ, cut_same, Option.some.injEq, exists_eq_left', exists_eq_left, D.int.injEq, D.bl.injEq, D.tup.injEq, D.lst.injEq, D.ref.injEq, Cell.lst.injEq, Option.bind_some, Option.map_some, Bool.not_true, Bool.not_false, if_true, if_false, Bool.false_eq_true, reduceCtorEq, decide_true, decide_false, true_and, and_true, Prod.mk.injEq, and_self, String.reduceEq, Bool.or_false, Bool.false_or, Bool.or_true, Bool.true_or, Bool.and_true, Bool.true_and, Bool.and_false, Bool.false_and, reduceIte, beq_self_eq_true]
        rw [es, er]
        exact ⟨_, _, rfl⟩
    · simp only [h1, w_var, w_const, w_glob, w_op, w_nil, w_cons, w_tst, w_and, w_or, w_ife, w_chain, w_slc, w_lc, w_meth, w_meth2, w_ifs0, w_ifs1, w_over, w_range1, w_range2, w_enum, w_zip, w_expr, w_assign, w_par, w_aug, w_setIx, w_retE, w_retN, w_if, w_while, w_for, w_pass, w_brk, w_cont, w_bad, w_snil, w_scons, p_call, p_tup, p_mkT, p_mkLt, p_mkLf, p_lst, p_addI, p_addT, p_addS, p_addL, p_sub, p_mul, p_fdiv, p_mod, p_pow, p_neg, p_not, p_lt, p_le, p_gt, p_ge, p_isN, p_isnotN, p_isB, p_isnotB, p_eqI, p_neI, p_eqB, p_neB, p_len, p_lenL, p_lenC, p_ixC, p_ixT, p_ixL, p_ixR, p_max2, p_min2, p_abs, p_intI, p_intB, p_tupOf, p_listOf, p_sum, p_all, p_any, p_isI, p_isC, s_int, s_bl, s_tup, s_lst, s_str, s_non, s_ins, p_in, p_notin, t_bl, t_int, t_non, t_tup, t_lst, i_tup, i_lst, l_lst, ii_int, ii_bl, ii_tup, ii_lst, ii_str, ii_non, a_name, a_tup, a_nil, a_cons, sa_nil, sa_cons, i_at0, i_at1, i_at2, i_setR, i_ix30, i_ix31, i_ix32, i_lowI, i_lowB, i_lowN, i_lowT, p_eqT, p_neT, p_slT, p_slF, p_sl3, k_tup, k_lst, k_int, k_ins, p_app, i_isTt, i_isTl, i_isTr, l_len0, l_len1, l_len2, l_len3, l_len4, l_len5, l_len6, l_len7, l_len8, l_len9, l_len10, l_len11, l_len12, p_mulL, p_back, p_slLt, p_slLf, w_asgG, w_gName, w_gIx, w_gAttr, w_gTup, w_gNil, w_gCons, w_setAttr, p_neTP, p_eqTP, p_eqLI, p_neLI, i_recvI, Ok_ok, Ok_bad, OkS_ok, OkS_bad, OkS_then, onN_nx, onN_rt, onN_bk, onN_ct, onT_nx, onT_ct, onT_bk, onT_rt, onR_nx, onR_rt, Ok_ret, List.getElem?_cons_zero, List.getElem?_cons_succ, List.set_cons_zero, List.set_cons_succ, cut_same, Option.some.injEq, exists_eq_left', exists_eq_left, D.int.injEq, D.bl.injEq, D.tup.injEq, D.lst.injEq, D.ref.injEq, Cell.lst.injEq, Option.bind_some, Option.map_some, Bool.not_true, Bool.not_false, if_true, if_false, Bool.false_eq_true, reduceCtorEq, decide_true, decide_false, true_and, and_true, Prod.mk.injEq, and_self, String.reduceEq, Bool.or_false, Bool.false_or, Bool.or_true, Bool.true_or, Bool.and_true, Bool.true_and, Bool.and_false, Bool.false_and, reduceIte, beq_self_eq_true]
      rw [es, er]
      exact ⟨_, _, rfl⟩
  · rintro ρ m' ⟨y5, y13, rfl, rfl⟩
    exact F11 h (by omega) a b c
theorem FC.tot (h : FC m n rs) : 1 ≤ holdsR rs ∧ holdsR rs ≤ 5 * 10 ^ 28 := by
  have aux : ∀ (n : Nat) (rs : Rws), Big rs n → 0 ≤ holdsR rs ∧ holdsR rs ≤ n * 10 ^ 28 ∧ (rs ≠ [] → 1 ≤ holdsR rs) := by
    intro n
    induction n with
    | zero =>
      intro rs hb
      have : rs = [] := List.length_eq_zero_iff.mp (by have := hb.len; omega)
      subst this
      simp [holdsR]
    | succ n ih =>
      intro rs hb
      cases rs with
      | nil => simp [holdsR]; omega
      | cons p rs =>
        obtain ⟨h1, h2, _⟩ := ih rs ⟨by have := hb.len; simpa using this, fun q hq => hb.all q (List.mem_cons_of_mem _ hq)⟩
        have hp := hb.all p List.mem_cons_self
        have e : holdsR (p :: rs) = p.2 + holdsR rs := by simp [holdsR]
        rw [e, Int.natCast_add, Int.add_mul]
        refine ⟨by omega, by omega, fun _ => by omega⟩
  obtain ⟨_, h2, h3⟩ := aux 5 rs h.big
  exact ⟨h3 h.ne, h2⟩
theorem F9 (h : FC m n rs) {due : List Int} : Far k m n b31t9 rs (G (10 ^ 25) rs :: due) d4 d5 d7 (some (.int (holdsR rs))) d10 d11 d12 d13 d14 d15 d16 d17 d18 := by
  intro a b c
  obtain ⟨_, _, _, hm⟩ := h.hm
  obtain ⟨h1, h2⟩ := h.tot
  have hm1 := at_set hm (dc a b c)
  simp only [b31t9, w_var, w_const, w_glob, w_op, w_nil, w_cons, w_tst, w_and, w_or, w_ife, w_chain, w_slc, w_lc, w_meth, w_meth2, w_ifs0, w_ifs1, w_over, w_range1, w_range2, w_enum, w_zip, w_expr, w_assign, w_par, w_aug, w_setIx, w_retE, w_retN, w_if, w_while, w_for, w_pass, w_brk, w_cont, w_bad, w_snil, w_scons, p_call, p_tup, p_mkT, p_mkLt, p_mkLf, p_lst, p_addI, p_addT, p_addS, p_addL, p_sub, p_mul, p_fdiv, p_mod, p_pow, p_neg, p_not, p_lt, p_le, p_gt, p_ge, p_isN, p_isnotN, p_isB, p_isnotB, p_eqI, p_neI, p_eqB, p_neB, p_len, p_lenL, p_lenC, p_ixC, p_ixT, p_ixL, p_ixR, p_max2, p_min2, p_abs, p_intI, p_intB, p_tupOf, p_listOf, p_sum, p_all, p_any, p_isI, p_isC, s_int, s_bl, s_tup, s_lst, s_str, s_non, s_ins, p_in, p_notin, t_bl, t_int, t_non, t_tup, t_lst, i_tup, i_lst, l_lst, ii_int, ii_bl, ii_tup, ii_lst, ii_str, ii_non, a_name, a_tup, a_nil, a_cons, sa_nil, sa_cons, i_at0, i_at1, i_at2, i_setR, i_ix30, i_ix31, i_ix32, i_lowI, i_lowB, i_lowN, i_lowT, p_eqT, p_neT, p_slT, p_slF, p_sl3, k_tup, k_lst, k_int, k_ins, p_app, i_isTt, i_isTl, i_isTr, l_len0, l_len1, l_len2, l_len3, l_len4, l_len5, l_len6, l_len7, l_len8, l_len9, l_len10, l_len11, l_len12, p_mulL, p_back, p_slLt, p_slLf, w_asgG, w_gName, w_gIx, w_gAttr, w_gTup, w_gNil, w_gCons, w_setAttr, p_neTP, p_eqTP, p_eqLI, p_neLI, i_recvI, Ok_ok, Ok_bad, OkS_ok, OkS_bad, OkS_then, onN_nx, onN_rt, onN_bk, onN_ct, onT_nx, onT_ct, onT_bk, onT_rt, onR_nx, onR_rt, Ok_ret, List.getElem?_cons_zero, List.getElem?_cons_succ, List.set_cons_zero, List.set_cons_succ, cut_same, Option.some.injEq, exists_eq_left', exists_eq_left, D.int.injEq, D.bl.injEq, D.tup.injEq, D.lst.injEq, D.ref.injEq, Cell.lst.injEq, Option.bind_some, Option.map_some, Bool.not_true, Bool.not_false, if_true, if_false, Bool.false_eq_true, reduceCtorEq, decide_true, decide_false, true_and, and_true, Prod.mk.injEq, and_self, String.reduceEq, Bool.or_false, Bool.false_or, Bool.or_true, Bool.true_or, Bool.and_true, Bool.true_and, Bool.and_false, Bool.false_and, reduceIte, beq_self_eq_true]
  refine (s_roll _ (at_lt hm1) (by omega) (sm60 (by omega) (by unfold B60; omega))).imp fun r ⟨v, a2, b2, c2, e', hv0, hv1⟩ => ?_
  subst e'
  obtain ⟨q, rfl⟩ : ∃ q : Nat, v = q := ⟨v.toNat, by omega⟩
  simp only [w_var, w_const, w_glob, w_op, w_nil, w_cons, w_tst, w_and, w_or, w_ife, w_chain, w_slc, w_lc, w_meth, w_meth2, w_ifs0, w_ifs1, w_over, w_range1, w_range2, w_enum, w_zip, w_expr, w_assign, w_par, w_aug, w_setIx, w_retE, w_retN, w_if, w_while, w_for, w_pass, w_brk, w_cont, w_bad, w_snil, w_scons, p_call, p_tup, p_mkT, p_mkLt, p_mkLf, p_lst, p_addI, p_addT, p_addS, p_addL, p_sub, p_mul, p_fdiv, p_mod, p_pow, p_neg, p_not, p_lt, p_le, p_gt, p_ge, p_isN, p_isnotN, p_isB, p_isnotB, p_eqI, p_neI, p_eqB, p_neB, p_len, p_lenL, p_lenC, p_ixC, p_ixT, p_ixL, p_ixR, p_max2, p_min2, p_abs, p_intI, p_intB, p_tupOf, p_listOf, p_sum, p_all, p_any, p_isI, p_isC, s_int, s_bl, s_tup, s_lst, s_str, s_non, s_ins, p_in, p_notin, t_bl, t_int, t_non, t_tup, t_lst, i_tup, i_lst, l_lst, ii_int, ii_bl, ii_tup, ii_lst, ii_str, ii_non, a_name, a_tup, a_nil, a_cons, sa_nil, sa_cons, i_at0, i_at1, i_at2, i_setR, i_ix30, i_ix31, i_ix32, i_lowI, i_lowB, i_lowN, i_lowT, p_eqT, p_neT, p_slT, p_slF, p_sl3, k_tup, k_lst, k_int, k_ins, p_app, i_isTt, i_isTl, i_isTr, l_len0, l_len1, l_len2, l_len3, l_len4, l_len5, l_len6, l_len7, l_len8, l_len9, l_len10, l_len11, l_len12, p_mulL, p_back, p_slLt, p_slLf, w_asgG, w_gName, w_gIx, w_gAttr, w_gTup, w_gNil, w_gCons, w_setAttr, p_neTP, p_eqTP, p_eqLI, p_neLI, i_recvI, Ok_ok, Ok_bad, OkS_ok, OkS_bad, OkS_then, onN_nx, onN_rt, onN_bk, onN_ct, onT_nx, onT_ct, onT_bk, onT_rt, onR_nx, onR_rt, Ok_ret, List.getElem?_cons_zero, List.getElem?_cons_succ, List.set_cons_zero, List.set_cons_succ, cut_same, Option.some.injEq, exists_eq_left', exists_eq_left, D.int.injEq, D.bl.injEq, D.tup.injEq, D.lst.injEq, D.ref.injEq, Cell.lst.injEq, Option.bind_some, Option.map_some, Bool.not_true, Bool.not_false, if_true, if_false, Bool.false_eq_true, reduceCtorEq, decide_true, decide_false, true_and, and_true, Prod.mk.injEq, and_self, String.reduceEq, Bool.or_false, Bool.false_or, Bool.or_true, Bool.true_or, Bool.and_true, Bool.true_and, Bool.and_false, Bool.false_and, reduceIte, beq_self_eq_true, set_lt hm1, List.set_set]
  exact F10 h hv1 a2 b2 c2
theorem F8 (h : FC m n rs) {due : List Int} : Far k m n b31t8 rs (G (10 ^ 25) rs :: due) d4 d5 d7 d9 d10 d11 d12 d13 d14 d15 d16 d17 d18 := by
  intro a b c
  have hl := h.big.len
  simp only [b31t8, w_var, w_const, w_glob, w_op, w_nil, w_cons, w_tst, w_and, w_or, w_ife, w_chain, w_slc, w_lc, w_meth, w_meth2, w_ifs0, w_ifs1, w_over, w_range1, w_range2, w_enum, w_zip, w_expr, w_assign, w_par, w_aug, w_setIx, w_retE, w_retN, w_if, w_while, w_for, w_pass, w_brk, w_cont, w_bad, w_snil, w_scons, p_call, p_tup, p_mkT, p_mkLt, p_mkLf, p_lst, p_addI, p_addT, p_addS, p_addL, p_sub, p_mul, p_fdiv, p_mod, p_pow, p_neg, p_not, p_lt, p_le, p_gt, p_ge, p_isN, p_isnotN, p_isB, p_isnotB, p_eqI, p_neI, p_eqB, p_neB, p_len, p_lenL, p_lenC, p_ixC, p_ixT, p_ixL, p_ixR, p_max2, p_min2, p_abs, p_intI, p_intB, p_tupOf, p_listOf, p_sum, p_all, p_any, p_isI, p_isC, s_int, s_bl, s_tup, s_lst, s_str, s_non, s_ins, p_in, p_notin, t_bl, t_int, t_non, t_tup, t_lst, i_tup, i_lst, l_lst, ii_int, ii_bl, ii_tup, ii_lst, ii_str, ii_non, a_name, a_tup, a_nil, a_cons, sa_nil, sa_cons, i_at0, i_at1, i_at2, i_setR, i_ix30, i_ix31, i_ix32, i_lowI, i_lowB, i_lowN, i_lowT, p_eqT, p_neT, p_slT, p_slF, p_sl3, k_tup, k_lst, k_int, k_ins, p_app, i_isTt, i_isTl, i_isTr, l_len0, l_len1, l_len2, l_len3, l_len4, l_len5, l_len6, l_len7, l_len8, l_len9, l_len10, l_len11, l_len12, p_mulL, p_back, p_slLt, p_slLf, w_asgG, w_gName, w_gIx, w_gAttr, w_gTup, w_gNil, w_gCons, w_setAttr, p_neTP, p_eqTP, p_eqLI, p_neLI, i_recvI, Ok_ok, Ok_bad, OkS_ok, OkS_bad, OkS_then, onN_nx, onN_rt, onN_bk, onN_ct, onT_nx, onT_ct, onT_bk, onT_rt, onR_nx, onR_rt, Ok_ret, List.getElem?_cons_zero, List.getElem?_cons_succ, List.set_cons_zero, List.set_cons_succ, cut_same, Option.some.injEq, exists_eq_left', exists_eq_left, D.int.injEq, D.bl.injEq, D.tup.injEq, D.lst.injEq, D.ref.injEq, Cell.lst.injEq, Option.bind_some, Option.map_some, Bool.not_true, Bool.not_false, if_true, if_false, Bool.false_eq_true, reduceCtorEq, decide_true, decide_false, true_and, and_true, Prod.mk.injEq, and_self, String.reduceEq, Bool.or_false, Bool.false_or, Bool.or_true, Bool.true_or, Bool.and_true, Bool.true_and, Bool.and_false, Bool.false_and, reduceIte, beq_self_eq_true, i_ref at0, List.length_map]
  refine ⟨lim40 (by omega), lc_map pairT (fun p => .int p.2) (by simp only [stands, i_ref at0, decide_true]) (fun _ => rfl) (fun p hp => ⟨_, rfl, ?_⟩) ?_⟩
  · simp only [w_var, w_const, w_glob, w_op, w_nil, w_cons, w_tst, w_and, w_or, w_ife, w_chain, w_slc, w_lc, w_meth, w_meth2, w_ifs0, w_ifs1, w_over, w_range1, w_range2, w_enum, w_zip, w_expr, w_assign, w_par, w_aug, w_setIx, w_retE, w_retN, w_if, w_while, w_for, w_pass, w_brk, w_cont, w_bad, w_snil, w_scons, p_call, p_tup, p_mkT, p_mkLt, p_mkLf, p_lst, p_addI, p_addT, p_addS, p_addL, p_sub, p_mul, p_fdiv, p_mod, p_pow, p_neg, p_not, p_lt, p_le, p_gt, p_ge, p_isN, p_isnotN, p_isB, p_isnotB, p_eqI, p_neI, p_eqB, p_neB, p_len, p_lenL, p_lenC, p_ixC, p_ixT, p_ixL, p_ixR, p_max2, p_min2, p_abs, p_intI, p_intB, p_tupOf, p_listOf, p_sum, p_all, p_any, p_isI, p_isC, s_int, s_bl, s_tup, s_lst, s_str, s_non, s_ins, p_in, p_notin, t_bl, t_int, t_non, t_tup, t_lst, i_tup, i_lst, l_lst, ii_int, ii_bl, ii_tup, ii_lst, ii_str, ii_non, a_name, a_tup, a_nil, a_cons, sa_nil, sa_cons, i_at0, i_at1, i_at2, i_setR, i_ix30, i_ix31, i_ix32, i_lowI, i_lowB, i_lowN, i_lowT, p_eqT, p_neT, p_slT, p_slF, p_sl3, k_tup, k_lst, k_int, k_ins, p_app, i_isTt, i_isTl, i_isTr, l_len0, l_len1, l_len2, l_len3, l_len4, l_len5, l_len6, l_len7, l_len8, l_len9, l_len10, l_len11, l_len12, p_mulL, p_back, p_slLt, p_slLf, w_asgG, w_gName, w_gIx, w_gAttr, w_gTup, w_gNil, w_gCons, w_setAttr, p_neTP, p_eqTP, p_eqLI, p_neLI, i_recvI, Ok_ok, Ok_bad, OkS_ok, OkS_bad, OkS_then, onN_nx, onN_rt, onN_bk, onN_ct, onT_nx, onT_ct, onT_bk, onT_rt, onR_nx, onR_rt, Ok_ret, List.getElem?_cons_zero, List.getElem?_cons_succ, List.set_cons_zero, List.set_cons_succ, cut_same, Option.some.injEq, exists_eq_left', exists_eq_left, D.int.injEq, D.bl.injEq, D.tup.injEq, D.lst.injEq, D.ref.injEq, Cell.lst.injEq, Option.bind_some, Option.map_some, Bool.not_true, Bool.not_false, if_true, if_false, Bool.false_eq_true, reduceCtorEq, decide_true, decide_false, true_and, and_true, Prod.mk.injEq, and_self, String.reduceEq, Bool.or_false, Bool.false_or, Bool.or_true, Bool.true_or, Bool.and_true, Bool.true_and, Bool.and_false, Bool.false_and, reduceIte, beq_self_eq_true, wipeE]
  · simp only [w_var, w_const, w_glob, w_op, w_nil, w_cons, w_tst, w_and, w_or, w_ife, w_chain, w_slc, w_lc, w_meth, w_meth2, w_ifs0, w_ifs1, w_over, w_range1, w_range2, w_enum, w_zip, w_expr, w_assign, w_par, w_aug, w_setIx, w_retE, w_retN, w_if, w_while, w_for, w_pass, w_brk, w_cont, w_bad, w_snil, w_scons, p_call, p_tup, p_mkT, p_mkLt, p_mkLf, p_lst, p_addI, p_addT, p_addS, p_addL, p_sub, p_mul, p_fdiv, p_mod, p_pow, p_neg, p_not, p_lt, p_le, p_gt, p_ge, p_isN, p_isnotN, p_isB, p_isnotB, p_eqI, p_neI, p_eqB, p_neB, p_len, p_lenL, p_lenC, p_ixC, p_ixT, p_ixL, p_ixR, p_max2, p_min2, p_abs, p_intI, p_intB, p_tupOf, p_listOf, p_sum, p_all, p_any, p_isI, p_isC, s_int, s_bl, s_tup, s_lst, s_str, s_non, s_ins, p_in, p_notin, t_bl, t_int, t_non, t_tup, t_lst, i_tup, i_lst, l_lst, ii_int, ii_bl, ii_tup, ii_lst, ii_str, ii_non, a_name, a_tup, a_nil, a_cons, sa_nil, sa_cons, i_at0, i_at1, i_at2, i_setR, i_ix30, i_ix31, i_ix32, i_lowI, i_lowB, i_lowN, i_lowT, p_eqT, p_neT, p_slT, p_slF, p_sl3, k_tup, k_lst, k_int, k_ins, p_app, i_isTt, i_isTl, i_isTr, l_len0, l_len1, l_len2, l_len3, l_len4, l_len5, l_len6, l_len7, l_len8, l_len9, l_len10, l_len11, l_len12, p_mulL, p_back, p_slLt, p_slLf, w_asgG, w_gName, w_gIx, w_gAttr, w_gTup, w_gNil, w_gCons, w_setAttr, p_neTP, p_eqTP, p_eqLI, p_neLI, i_recvI, Ok_ok, Ok_bad, OkS_ok, OkS_bad, OkS_then, onN_nx, onN_rt, onN_bk, onN_ct, onT_nx, onT_ct, onT_bk, onT_rt, onR_nx, onR_rt, Ok_ret, List.getElem?_cons_zero, List.getElem?_cons_succ, List.set_cons_zero, List.set_cons_succ, cut_same, Option.some.injEq, exists_eq_left', exists_eq_left, D.int.injEq, D.bl.injEq, D.tup.injEq, D.lst.injEq, D.ref.injEq, Cell.lst.injEq, Option.bind_some, Option.map_some, Bool.not_true, Bool.not_false, if_true, if_false, Bool.false_eq_true, reduceCtorEq, decide_true, decide_false, true_and, and_true, Prod.mk.injEq, and_self, String.reduceEq, Bool.or_false, Bool.false_or, Bool.or_true, Bool.true_or, Bool.and_true, Bool.true_and, Bool.and_false, Bool.false_and, reduceIte, beq_self_eq_true, List.length_map, intsD_mapF]
    exact ⟨lim40 (by omega), F9 h a b c⟩
theorem F7 (h : FC m n rs) {due : List Int} : Far k m n b31t7 rs (G (10 ^ 25) rs :: due) d4 d5 d7 d9 d10 d11 d12 d13 d14 d15 d16 d17 d18 := by
  intro a b c
  have hl := h.big.len
  have hll := h.ll
  simp only [b31t7, w_var, w_const, w_glob, w_op, w_nil, w_cons, w_tst, w_and, w_or, w_ife, w_chain, w_slc, w_lc, w_meth, w_meth2, w_ifs0, w_ifs1, w_over, w_range1, w_range2, w_enum, w_zip, w_expr, w_assign, w_par, w_aug, w_setIx, w_retE, w_retN, w_if, w_while, w_for, w_pass, w_brk, w_cont, w_bad, w_snil, w_scons, p_call, p_tup, p_mkT, p_mkLt, p_mkLf, p_lst, p_addI, p_addT, p_addS, p_addL, p_sub, p_mul, p_fdiv, p_mod, p_pow, p_neg, p_not, p_lt, p_le, p_gt, p_ge, p_isN, p_isnotN, p_isB, p_isnotB, p_eqI, p_neI, p_eqB, p_neB, p_len, p_lenL, p_lenC, p_ixC, p_ixT, p_ixL, p_ixR, p_max2, p_min2, p_abs, p_intI, p_intB, p_tupOf, p_listOf, p_sum, p_all, p_any, p_isI, p_isC, s_int, s_bl, s_tup, s_lst, s_str, s_non, s_ins, p_in, p_notin, t_bl, t_int, t_non, t_tup, t_lst, i_tup, i_lst, l_lst, ii_int, ii_bl, ii_tup, ii_lst, ii_str, ii_non, a_name, a_tup, a_nil, a_cons, sa_nil, sa_cons, i_at0, i_at1, i_at2, i_setR, i_ix30, i_ix31, i_ix32, i_lowI, i_lowB, i_lowN, i_lowT, p_eqT, p_neT, p_slT, p_slF, p_sl3, k_tup, k_lst, k_int, k_ins, p_app, i_isTt, i_isTl, i_isTr, l_len0, l_len1, l_len2, l_len3, l_len4, l_len5, l_len6, l_len7, l_len8, l_len9, l_len10, l_len11, l_len12, p_mulL, p_back, p_slLt, p_slLf, w_asgG, w_gName, w_gIx, w_gAttr, w_gTup, w_gNil, w_gCons, w_setAttr, p_neTP, p_eqTP, p_eqLI, p_neLI, i_recvI, Ok_ok, Ok_bad, OkS_ok, OkS_bad, OkS_then, onN_nx, onN_rt, onN_bk, onN_ct, onT_nx, onT_ct, onT_bk, onT_rt, onR_nx, onR_rt, Ok_ret, List.getElem?_cons_zero, List.getElem?_cons_succ, List.set_cons_zero, List.set_cons_succ, cut_same, Option.some.injEq, exists_eq_left', exists_eq_left, D.int.injEq, D.bl.injEq, D.tup.injEq, D.lst.injEq, D.ref.injEq, Cell.lst.injEq, Option.bind_some, Option.map_some, Bool.not_true, Bool.not_false, if_true, if_false, Bool.false_eq_true, reduceCtorEq, decide_true, decide_false, true_and, and_true, Prod.mk.injEq, and_self, String.reduceEq, Bool.or_false, Bool.false_or, Bool.or_true, Bool.true_or, Bool.and_true, Bool.true_and, Bool.and_false, Bool.false_and, reduceIte, beq_self_eq_true, at_room (k+5) (by omega : (leanR rs).length ≤ 1000) h.lok.sm, h.rl, i_ref at0, List.length_map]
  refine ⟨lim40 (by omega), lc_map pairT (fun p => .int (p.1 * p.2)) (by simp only [stands, i_ref at0, decide_true]) (fun _ => rfl) (fun p hp => ⟨_, rfl, ?_⟩) ?_⟩
  · have sm := h.ok.sm p hp
    simp only [w_var, w_const, w_glob, w_op, w_nil, w_cons, w_tst, w_and, w_or, w_ife, w_chain, w_slc, w_lc, w_meth, w_meth2, w_ifs0, w_ifs1, w_over, w_range1, w_range2, w_enum, w_zip, w_expr, w_assign, w_par, w_aug, w_setIx, w_retE, w_retN, w_if, w_while, w_for, w_pass, w_brk, w_cont, w_bad, w_snil, w_scons, p_call, p_tup, p_mkT, p_mkLt, p_mkLf, p_lst, p_addI, p_addT, p_addS, p_addL, p_sub, p_mul, p_fdiv, p_mod, p_pow, p_neg, p_not, p_lt, p_le, p_gt, p_ge, p_isN, p_isnotN, p_isB, p_isnotB, p_eqI, p_neI, p_eqB, p_neB, p_len, p_lenL, p_lenC, p_ixC, p_ixT, p_ixL, p_ixR, p_max2, p_min2, p_abs, p_intI, p_intB, p_tupOf, p_listOf, p_sum, p_all, p_any, p_isI, p_isC, s_int, s_bl, s_tup, s_lst, s_str, s_non, s_ins, p_in, p_notin, t_bl, t_int, t_non, t_tup, t_lst, i_tup, i_lst, l_lst, ii_int, ii_bl, ii_tup, ii_lst, ii_str, ii_non, a_name, a_tup, a_nil, a_cons, sa_nil, sa_cons, i_at0, i_at1, i_at2, i_setR, i_ix30, i_ix31, i_ix32, i_lowI, i_lowB, i_lowN, i_lowT, p_eqT, p_neT, p_slT, p_slF, p_sl3, k_tup, k_lst, k_int, k_ins, p_app, i_isTt, i_isTl, i_isTr, l_len0, l_len1, l_len2, l_len3, l_len4, l_len5, l_len6, l_len7, l_len8, l_len9, l_len10, l_len11, l_len12, p_mulL, p_back, p_slLt, p_slLf, w_asgG, w_gName, w_gIx, w_gAttr, w_gTup, w_gNil, w_gCons, w_setAttr, p_neTP, p_eqTP, p_eqLI, p_neLI, i_recvI, Ok_ok, Ok_bad, OkS_ok, OkS_bad, OkS_then, onN_nx, onN_rt, onN_bk, onN_ct, onT_nx, onT_ct, onT_bk, onT_rt, onR_nx, onR_rt, Ok_ret, List.getElem?_cons_zero, List.getElem?_cons_succ, List.set_cons_zero, List.set_cons_succ, cut_same, Option.some.injEq, exists_eq_left', exists_eq_left, D.int.injEq, D.bl.injEq, D.tup.injEq, D.lst.injEq, D.ref.injEq, Cell.lst.injEq, Option.bind_some, Option.map_some, Bool.not_true, Bool.not_false, if_true, if_false, Bool.false_eq_true, reduceCtorEq, decide_true, decide_false, true_and, and_true, Prod.mk.injEq, and_self, String.reduceEq, Bool.or_false, Bool.false_or, Bool.or_true, Bool.true_or, Bool.and_true, Bool.true_and, Bool.and_false, Bool.false_and, reduceIte, beq_self_eq_true, wipeE, mulS sm.1 sm.2]
  · have e : (rs.map fun p => p.1 * p.2).sum = rsum id rs := rfl
    simp only [w_var, w_const, w_glob, w_op, w_nil, w_cons, w_tst, w_and, w_or, w_ife, w_chain, w_slc, w_lc, w_meth, w_meth2, w_ifs0, w_ifs1, w_over, w_range1, w_range2, w_enum, w_zip, w_expr, w_assign, w_par, w_aug, w_setIx, w_retE, w_retN, w_if, w_while, w_for, w_pass, w_brk, w_cont, w_bad, w_snil, w_scons, p_call, p_tup, p_mkT, p_mkLt, p_mkLf, p_lst, p_addI, p_addT, p_addS, p_addL, p_sub, p_mul, p_fdiv, p_mod, p_pow, p_neg, p_not, p_lt, p_le, p_gt, p_ge, p_isN, p_isnotN, p_isB, p_isnotB, p_eqI, p_neI, p_eqB, p_neB, p_len, p_lenL, p_lenC, p_ixC, p_ixT, p_ixL, p_ixR, p_max2, p_min2, p_abs, p_intI, p_intB, p_tupOf, p_listOf, p_sum, p_all, p_any, p_isI, p_isC, s_int, s_bl, s_tup, s_lst, s_str, s_non, s_ins, p_in, p_notin, t_bl, t_int, t_non, t_tup, t_lst, i_tup, i_lst, l_lst, ii_int, ii_bl, ii_tup, ii_lst, ii_str, ii_non, a_name, a_tup, a_nil, a_cons, sa_nil, sa_cons, i_at0, i_at1, i_at2, i_setR, i_ix30, i_ix31, i_ix32, i_lowI, i_lowB, i_lowN, i_lowT, p_eqT, p_neT, p_slT, p_slF, p_sl3, k_tup, k_lst, k_int, k_ins, p_app, i_isTt, i_isTl, i_isTr, l_len0, l_len1, l_len2, l_len3, l_len4, l_len5, l_len6, l_len7, l_len8, l_len9, l_len10, l_len11, l_len12, p_mulL, p_back, p_slLt, p_slLf, w_asgG, w_gName, w_gIx, w_gAttr, w_gTup, w_gNil, w_gCons, w_setAttr, p_neTP, p_eqTP, p_eqLI, p_neLI, i_recvI, Ok_ok, Ok_bad, OkS_ok, OkS_bad, OkS_then, onN_nx, onN_rt, onN_bk, onN_ct, onT_nx, onT_ct, onT_bk, onT_rt, onR_nx, onR_rt, Ok_ret, List.getElem?_cons_zero, List.getElem?_cons_succ, List.set_cons_zero, List.set_cons_succ, cut_same, Option.some.injEq, exists_eq_left', exists_eq_left, D.int.injEq, D.bl.injEq, D.tup.injEq, D.lst.injEq, D.ref.injEq, Cell.lst.injEq, Option.bind_some, Option.map_some, Bool.not_true, Bool.not_false, if_true, if_false, Bool.false_eq_true, reduceCtorEq, decide_true, decide_false, true_and, and_true, Prod.mk.injEq, and_self, String.reduceEq, Bool.or_false, Bool.false_or, Bool.or_true, Bool.true_or, Bool.and_true, Bool.true_and, Bool.and_false, Bool.false_and, reduceIte, beq_self_eq_true, List.length_map, intsD_mapF, e]
    exact ⟨lim40 (by omega), F8 h a b c⟩
theorem F6 (h : FC m n rs) : Far k m n b31t6 rs [G (10 ^ 25) rs, G (10 ^ 20) rs, G 1 rs] d4 d5 (some (.tup ((leanR rs).map pairT))) d9 d10 d11 d12 d13 d14 d15 d16 d17 d18 := by
  intro a b c
  have e2 : placesR S3 (leanR rs) = [G (10 ^ 25) rs, G (10 ^ 20) rs, G 1 rs] := by
    have : placesR S3 (leanR rs) = placesR S3 rs := by
      unfold placesR
      exact List.map_congr_left fun s _ => h.rl _
    rw [this]
    rfl
  simp only [b31t6, w_var, w_const, w_glob, w_op, w_nil, w_cons, w_tst, w_and, w_or, w_ife, w_chain, w_slc, w_lc, w_meth, w_meth2, w_ifs0, w_ifs1, w_over, w_range1, w_range2, w_enum, w_zip, w_expr, w_assign, w_par, w_aug, w_setIx, w_retE, w_retN, w_if, w_while, w_for, w_pass, w_brk, w_cont, w_bad, w_snil, w_scons, p_call, p_tup, p_mkT, p_mkLt, p_mkLf, p_lst, p_addI, p_addT, p_addS, p_addL, p_sub, p_mul, p_fdiv, p_mod, p_pow, p_neg, p_not, p_lt, p_le, p_gt, p_ge, p_isN, p_isnotN, p_isB, p_isnotB, p_eqI, p_neI, p_eqB, p_neB, p_len, p_lenL, p_lenC, p_ixC, p_ixT, p_ixL, p_ixR, p_max2, p_min2, p_abs, p_intI, p_intB, p_tupOf, p_listOf, p_sum, p_all, p_any, p_isI, p_isC, s_int, s_bl, s_tup, s_lst, s_str, s_non, s_ins, p_in, p_notin, t_bl, t_int, t_non, t_tup, t_lst, i_tup, i_lst, l_lst, ii_int, ii_bl, ii_tup, ii_lst, ii_str, ii_non, a_name, a_tup, a_nil, a_cons, sa_nil, sa_cons, i_at0, i_at1, i_at2, i_setR, i_ix30, i_ix31, i_ix32, i_lowI, i_lowB, i_lowN, i_lowT, p_eqT, p_neT, p_slT, p_slF, p_sl3, k_tup, k_lst, k_int, k_ins, p_app, i_isTt, i_isTl, i_isTr, l_len0, l_len1, l_len2, l_len3, l_len4, l_len5, l_len6, l_len7, l_len8, l_len9, l_len10, l_len11, l_len12, p_mulL, p_back, p_slLt, p_slLf, w_asgG, w_gName, w_gIx, w_gAttr, w_gTup, w_gNil, w_gCons, w_setAttr, p_neTP, p_eqTP, p_eqLI, p_neLI, i_recvI, Ok_ok, Ok_bad, OkS_ok, OkS_bad, OkS_then, onN_nx, onN_rt, onN_bk, onN_ct, onT_nx, onT_ct, onT_bk, onT_rt, onR_nx, onR_rt, Ok_ret, List.getElem?_cons_zero, List.getElem?_cons_succ, List.set_cons_zero, List.set_cons_succ, cut_same, Option.some.injEq, exists_eq_left', exists_eq_left, D.int.injEq, D.bl.injEq, D.tup.injEq, D.lst.injEq, D.ref.injEq, Cell.lst.injEq, Option.bind_some, Option.map_some, Bool.not_true, Bool.not_false, if_true, if_false, Bool.false_eq_true, reduceCtorEq, decide_true, decide_false, true_and, and_true, Prod.mk.injEq, and_self, String.reduceEq, Bool.or_false, Bool.false_or, Bool.or_true, Bool.true_or, Bool.and_true, Bool.true_and, Bool.and_false, Bool.false_and, reduceIte, beq_self_eq_true, at_rows, p_neTP, s_places (k+5) S3_ok h.lok, e2, i_ref at1, p_neT]
  exact F7 h a b c
abbrev Far0 (k : Nat) (m : Mem) (n : Nat) (t : CSs) (rs : Rws) (d4 d5 d6 d7 d8 d9 d10 d11 d12 d13 d14 d15 d16 d17 d18 : Option D) : Prop := ∀ a b c, OkS (semSs P (callN P (k + 7)) t [some (.ref n), some (.tup (S3.map .int)), some (Sc S3), some (.ref m.length), d4, d5, d6, d7, d8, d9, d10, d11, d12, d13, d14, d15, d16, d17, d18] (m.set n (dc a b c) ++ [.lst (rs.map pairT)])) (QR m n)
theorem F5 (h : FC m n rs) : Far0 k m n b31t5 rs d4 d5 (some (St (leanR rs))) (some (.tup ((leanR rs).map pairT))) d8 d9 d10 d11 d12 d13 d14 d15 d16 d17 d18 := by
  intro a b c
  have hl := h.big.len
  have e0 : S3.length = 3 := rfl
  have hst : stands (.ref m.length) (rs.map pairT) (m.set n (dc a b c) ++ [.lst (rs.map pairT)]) = true := by simp only [stands, i_ref at_appS, decide_true]
  simp only [b31t5, w_var, w_const, w_glob, w_op, w_nil, w_cons, w_tst, w_and, w_or, w_ife, w_chain, w_slc, w_lc, w_meth, w_meth2, w_ifs0, w_ifs1, w_over, w_range1, w_range2, w_enum, w_zip, w_expr, w_assign, w_par, w_aug, w_setIx, w_retE, w_retN, w_if, w_while, w_for, w_pass, w_brk, w_cont, w_bad, w_snil, w_scons, p_call, p_tup, p_mkT, p_mkLt, p_mkLf, p_lst, p_addI, p_addT, p_addS, p_addL, p_sub, p_mul, p_fdiv, p_mod, p_pow, p_neg, p_not, p_lt, p_le, p_gt, p_ge, p_isN, p_isnotN, p_isB, p_isnotB, p_eqI, p_neI, p_eqB, p_neB, p_len, p_lenL, p_lenC, p_ixC, p_ixT, p_ixL, p_ixR, p_max2, p_min2, p_abs, p_intI, p_intB, p_tupOf, p_listOf, p_sum, p_all, p_any, p_isI, p_isC, s_int, s_bl, s_tup, s_lst, s_str, s_non, s_ins, p_in, p_notin, t_bl, t_int, t_non, t_tup, t_lst, i_tup, i_lst, l_lst, ii_int, ii_bl, ii_tup, ii_lst, ii_str, ii_non, a_name, a_tup, a_nil, a_cons, sa_nil, sa_cons, i_at0, i_at1, i_at2, i_setR, i_ix30, i_ix31, i_ix32, i_lowI, i_lowB, i_lowN, i_lowT, p_eqT, p_neT, p_slT, p_slF, p_sl3, k_tup, k_lst, k_int, k_ins, p_app, i_isTt, i_isTl, i_isTr, l_len0, l_len1, l_len2, l_len3, l_len4, l_len5, l_len6, l_len7, l_len8, l_len9, l_len10, l_len11, l_len12, p_mulL, p_back, p_slLt, p_slLf, w_asgG, w_gName, w_gIx, w_gAttr, w_gTup, w_gNil, w_gCons, w_setAttr, p_neTP, p_eqTP, p_eqLI, p_neLI, i_recvI, Ok_ok, Ok_bad, OkS_ok, OkS_bad, OkS_then, onN_nx, onN_rt, onN_bk, onN_ct, onT_nx, onT_ct, onT_bk, onT_rt, onR_nx, onR_rt, Ok_ret, List.getElem?_cons_zero, List.getElem?_cons_succ, List.set_cons_zero, List.set_cons_succ, cut_same, Option.some.injEq, exists_eq_left', exists_eq_left, D.int.injEq, D.bl.injEq, D.tup.injEq, D.lst.injEq, D.ref.injEq, Cell.lst.injEq, Option.bind_some, Option.map_some, Bool.not_true, Bool.not_false, if_true, if_false, Bool.false_eq_true, reduceCtorEq, decide_true, decide_false, true_and, and_true, Prod.mk.injEq, and_self, String.reduceEq, Bool.or_false, Bool.false_or, Bool.or_true, Bool.true_or, Bool.and_true, Bool.true_and, Bool.and_false, Bool.false_and, reduceIte, beq_self_eq_true, List.length_map, e0]
  refine ⟨lim40 (by omega), lc_map D.int (fun s => .int (G s rs)) rfl (fun _ => rfl) (fun s hs => ⟨_, rfl, ?_⟩) ?_⟩
  · simp only [w_var, w_const, w_glob, w_op, w_nil, w_cons, w_tst, w_and, w_or, w_ife, w_chain, w_slc, w_lc, w_meth, w_meth2, w_ifs0, w_ifs1, w_over, w_range1, w_range2, w_enum, w_zip, w_expr, w_assign, w_par, w_aug, w_setIx, w_retE, w_retN, w_if, w_while, w_for, w_pass, w_brk, w_cont, w_bad, w_snil, w_scons, p_call, p_tup, p_mkT, p_mkLt, p_mkLf, p_lst, p_addI, p_addT, p_addS, p_addL, p_sub, p_mul, p_fdiv, p_mod, p_pow, p_neg, p_not, p_lt, p_le, p_gt, p_ge, p_isN, p_isnotN, p_isB, p_isnotB, p_eqI, p_neI, p_eqB, p_neB, p_len, p_lenL, p_lenC, p_ixC, p_ixT, p_ixL, p_ixR, p_max2, p_min2, p_abs, p_intI, p_intB, p_tupOf, p_listOf, p_sum, p_all, p_any, p_isI, p_isC, s_int, s_bl, s_tup, s_lst, s_str, s_non, s_ins, p_in, p_notin, t_bl, t_int, t_non, t_tup, t_lst, i_tup, i_lst, l_lst, ii_int, ii_bl, ii_tup, ii_lst, ii_str, ii_non, a_name, a_tup, a_nil, a_cons, sa_nil, sa_cons, i_at0, i_at1, i_at2, i_setR, i_ix30, i_ix31, i_ix32, i_lowI, i_lowB, i_lowN, i_lowT, p_eqT, p_neT, p_slT, p_slF, p_sl3, k_tup, k_lst, k_int, k_ins, p_app, i_isTt, i_isTl, i_isTr, l_len0, l_len1, l_len2, l_len3, l_len4, l_len5, l_len6, l_len7, l_len8, l_len9, l_len10, l_len11, l_len12, p_mulL, p_back, p_slLt, p_slLf, w_asgG, w_gName, w_gIx, w_gAttr, w_gTup, w_gNil, w_gCons, w_setAttr, p_neTP, p_eqTP, p_eqLI, p_neLI, i_recvI, Ok_ok, Ok_bad, OkS_ok, OkS_bad, OkS_then, onN_nx, onN_rt, onN_bk, onN_ct, onT_nx, onT_ct, onT_bk, onT_rt, onR_nx, onR_rt, Ok_ret, List.getElem?_cons_zero, List.getElem?_cons_succ, List.set_cons_zero, List.set_cons_succ, cut_same, Option.some.injEq, exists_eq_left', exists_eq_left, D.int.injEq, D.bl.injEq, D.tup.injEq, D.lst.injEq, D.ref.injEq, Cell.lst.injEq, Option.bind_some, Option.map_some, Bool.not_true, Bool.not_false, if_true, if_false, Bool.false_eq_true, reduceCtorEq, decide_true, decide_false, true_and, and_true, Prod.mk.injEq, and_self, String.reduceEq, Bool.or_false, Bool.false_or, Bool.or_true, Bool.true_or, Bool.and_true, Bool.true_and, Bool.and_false, Bool.false_and, reduceIte, beq_self_eq_true, wipeE, i_ref at_appS, List.length_map]
    refine ⟨lim40 (by omega), lc_map pairT (fun p => .int (p.2 * (p.1 / s))) hst (fun _ => rfl) (fun p hp => ⟨_, rfl, ?_⟩) ?_⟩
    · have sm := h.ok.sm2 p hp
      have hs1 := S3_ok.sm s hs
      have h0 : 0 < s := by omega
      have e2 : Sm (p.1 / s) = true := by
        have : 0 ≤ p.1 / s := Int.ediv_nonneg sm.1 (by omega)
        have : p.1 / s ≤ p.1 := Int.ediv_le_self _ sm.1
        exact sm60 (by omega) (by omega)
      simp only [w_var, w_const, w_glob, w_op, w_nil, w_cons, w_tst, w_and, w_or, w_ife, w_chain, w_slc, w_lc, w_meth, w_meth2, w_ifs0, w_ifs1, w_over, w_range1, w_range2, w_enum, w_zip, w_expr, w_assign, w_par, w_aug, w_setIx, w_retE, w_retN, w_if, w_while, w_for, w_pass, w_brk, w_cont, w_bad, w_snil, w_scons, p_call, p_tup, p_mkT, p_mkLt, p_mkLf, p_lst, p_addI, p_addT, p_addS, p_addL, p_sub, p_mul, p_fdiv, p_mod, p_pow, p_neg, p_not, p_lt, p_le, p_gt, p_ge, p_isN, p_isnotN, p_isB, p_isnotB, p_eqI, p_neI, p_eqB, p_neB, p_len, p_lenL, p_lenC, p_ixC, p_ixT, p_ixL, p_ixR, p_max2, p_min2, p_abs, p_intI, p_intB, p_tupOf, p_listOf, p_sum, p_all, p_any, p_isI, p_isC, s_int, s_bl, s_tup, s_lst, s_str, s_non, s_ins, p_in, p_notin, t_bl, t_int, t_non, t_tup, t_lst, i_tup, i_lst, l_lst, ii_int, ii_bl, ii_tup, ii_lst, ii_str, ii_non, a_name, a_tup, a_nil, a_cons, sa_nil, sa_cons, i_at0, i_at1, i_at2, i_setR, i_ix30, i_ix31, i_ix32, i_lowI, i_lowB, i_lowN, i_lowT, p_eqT, p_neT, p_slT, p_slF, p_sl3, k_tup, k_lst, k_int, k_ins, p_app, i_isTt, i_isTl, i_isTr, l_len0, l_len1, l_len2, l_len3, l_len4, l_len5, l_len6, l_len7, l_len8, l_len9, l_len10, l_len11, l_len12, p_mulL, p_back, p_slLt, p_slLf, w_asgG, w_gName, w_gIx, w_gAttr, w_gTup, w_gNil, w_gCons, w_setAttr, p_neTP, p_eqTP, p_eqLI, p_neLI, i_recvI, Ok_ok, Ok_bad, OkS_ok, OkS_bad, OkS_then, onN_nx, onN_rt, onN_bk, onN_ct, onT_nx, onT_ct, onT_bk, onT_rt, onR_nx, onR_rt, Ok_ret, List.getElem?_cons_zero, List.getElem?_cons_succ, List.set_cons_zero, List.set_cons_succ, cut_same, Option.some.injEq, exists_eq_left', exists_eq_left, D.int.injEq, D.bl.injEq, D.tup.injEq, D.lst.injEq, D.ref.injEq, Cell.lst.injEq, Option.bind_some, Option.map_some, Bool.not_true, Bool.not_false, if_true, if_false, Bool.false_eq_true, reduceCtorEq, decide_true, decide_false, true_and, and_true, Prod.mk.injEq, and_self, String.reduceEq, Bool.or_false, Bool.false_or, Bool.or_true, Bool.true_or, Bool.and_true, Bool.true_and, Bool.and_false, Bool.false_and, reduceIte, beq_self_eq_true, wipeE, h0, hs1.2, mulS sm.2.2 e2]
    · have e : (rs.map fun p => p.2 * (p.1 / s)).sum = G s rs := by
        unfold G rsum
        congr 1
        exact List.map_congr_left fun p _ => Int.mul_comm _ _
      simp only [w_var, w_const, w_glob, w_op, w_nil, w_cons, w_tst, w_and, w_or, w_ife, w_chain, w_slc, w_lc, w_meth, w_meth2, w_ifs0, w_ifs1, w_over, w_range1, w_range2, w_enum, w_zip, w_expr, w_assign, w_par, w_aug, w_setIx, w_retE, w_retN, w_if, w_while, w_for, w_pass, w_brk, w_cont, w_bad, w_snil, w_scons, p_call, p_tup, p_mkT, p_mkLt, p_mkLf, p_lst, p_addI, p_addT, p_addS, p_addL, p_sub, p_mul, p_fdiv, p_mod, p_pow, p_neg, p_not, p_lt, p_le, p_gt, p_ge, p_isN, p_isnotN, p_isB, p_isnotB, p_eqI, p_neI, p_eqB, p_neB, p_len, p_lenL, p_lenC, p_ixC, p_ixT, p_ixL, p_ixR, p_max2, p_min2, p_abs, p_intI, p_intB, p_tupOf, p_listOf, p_sum, p_all, p_any, p_isI, p_isC, s_int, s_bl, s_tup, s_lst, s_str, s_non, s_ins, p_in, p_notin, t_bl, t_int, t_non, t_tup, t_lst, i_tup, i_lst, l_lst, ii_int, ii_bl, ii_tup, ii_lst, ii_str, ii_non, a_name, a_tup, a_nil, a_cons, sa_nil, sa_cons, i_at0, i_at1, i_at2, i_setR, i_ix30, i_ix31, i_ix32, i_lowI, i_lowB, i_lowN, i_lowT, p_eqT, p_neT, p_slT, p_slF, p_sl3, k_tup, k_lst, k_int, k_ins, p_app, i_isTt, i_isTl, i_isTr, l_len0, l_len1, l_len2, l_len3, l_len4, l_len5, l_len6, l_len7, l_len8, l_len9, l_len10, l_len11, l_len12, p_mulL, p_back, p_slLt, p_slLf, w_asgG, w_gName, w_gIx, w_gAttr, w_gTup, w_gNil, w_gCons, w_setAttr, p_neTP, p_eqTP, p_eqLI, p_neLI, i_recvI, Ok_ok, Ok_bad, OkS_ok, OkS_bad, OkS_then, onN_nx, onN_rt, onN_bk, onN_ct, onT_nx, onT_ct, onT_bk, onT_rt, onR_nx, onR_rt, Ok_ret, List.getElem?_cons_zero, List.getElem?_cons_succ, List.set_cons_zero, List.set_cons_succ, cut_same, Option.some.injEq, exists_eq_left', exists_eq_left, D.int.injEq, D.bl.injEq, D.tup.injEq, D.lst.injEq, D.ref.injEq, Cell.lst.injEq, Option.bind_some, Option.map_some, Bool.not_true, Bool.not_false, if_true, if_false, Bool.false_eq_true, reduceCtorEq, decide_true, decide_false, true_and, and_true, Prod.mk.injEq, and_self, String.reduceEq, Bool.or_false, Bool.false_or, Bool.or_true, Bool.true_or, Bool.and_true, Bool.true_and, Bool.and_false, Bool.false_and, reduceIte, beq_self_eq_true, List.length_map, intsD_mapF, e]
      exact lim40 (by omega)
  · have e : S3.map (fun s => D.int (G s rs)) = [G (10 ^ 25) rs, G (10 ^ 20) rs, G 1 rs].map .int := rfl
    simp only [w_var, w_const, w_glob, w_op, w_nil, w_cons, w_tst, w_and, w_or, w_ife, w_chain, w_slc, w_lc, w_meth, w_meth2, w_ifs0, w_ifs1, w_over, w_range1, w_range2, w_enum, w_zip, w_expr, w_assign, w_par, w_aug, w_setIx, w_retE, w_retN, w_if, w_while, w_for, w_pass, w_brk, w_cont, w_bad, w_snil, w_scons, p_call, p_tup, p_mkT, p_mkLt, p_mkLf, p_lst, p_addI, p_addT, p_addS, p_addL, p_sub, p_mul, p_fdiv, p_mod, p_pow, p_neg, p_not, p_lt, p_le, p_gt, p_ge, p_isN, p_isnotN, p_isB, p_isnotB, p_eqI, p_neI, p_eqB, p_neB, p_len, p_lenL, p_lenC, p_ixC, p_ixT, p_ixL, p_ixR, p_max2, p_min2, p_abs, p_intI, p_intB, p_tupOf, p_listOf, p_sum, p_all, p_any, p_isI, p_isC, s_int, s_bl, s_tup, s_lst, s_str, s_non, s_ins, p_in, p_notin, t_bl, t_int, t_non, t_tup, t_lst, i_tup, i_lst, l_lst, ii_int, ii_bl, ii_tup, ii_lst, ii_str, ii_non, a_name, a_tup, a_nil, a_cons, sa_nil, sa_cons, i_at0, i_at1, i_at2, i_setR, i_ix30, i_ix31, i_ix32, i_lowI, i_lowB, i_lowN, i_lowT, p_eqT, p_neT, p_slT, p_slF, p_sl3, k_tup, k_lst, k_int, k_ins, p_app, i_isTt, i_isTl, i_isTr, l_len0, l_len1, l_len2, l_len3, l_len4, l_len5, l_len6, l_len7, l_len8, l_len9, l_len10, l_len11, l_len12, p_mulL, p_back, p_slLt, p_slLf, w_asgG, w_gName, w_gIx, w_gAttr, w_gTup, w_gNil, w_gCons, w_setAttr, p_neTP, p_eqTP, p_eqLI, p_neLI, i_recvI, Ok_ok, Ok_bad, OkS_ok, OkS_bad, OkS_then, onN_nx, onN_rt, onN_bk, onN_ct, onT_nx, onT_ct, onT_bk, onT_rt, onR_nx, onR_rt, Ok_ret, List.getElem?_cons_zero, List.getElem?_cons_succ, List.set_cons_zero, List.set_cons_succ, cut_same, Option.some.injEq, exists_eq_left', exists_eq_left, D.int.injEq, D.bl.injEq, D.tup.injEq, D.lst.injEq, D.ref.injEq, Cell.lst.injEq, Option.bind_some, Option.map_some, Bool.not_true, Bool.not_false, if_true, if_false, Bool.false_eq_true, reduceCtorEq, decide_true, decide_false, true_and, and_true, Prod.mk.injEq, and_self, String.reduceEq, Bool.or_false, Bool.false_or, Bool.or_true, Bool.true_or, Bool.and_true, Bool.true_and, Bool.and_false, Bool.false_and, reduceIte, beq_self_eq_true, e, List.length_map, len1, List.append_assoc, List.singleton_append]
    exact ⟨lim40 (by simp), F6 h a b c⟩
theorem F3 (h : FC m n rs) : Far0 k m n b31t3 rs d4 d5 d6 d7 d8 d9 d10 d11 d12 d13 d14 d15 d16 d17 d18 := by
  intro a b c
  have hl := h.big.len
  simp only [b31t3, b31t4, w_var, w_const, w_glob, w_op, w_nil, w_cons, w_tst, w_and, w_or, w_ife, w_chain, w_slc, w_lc, w_meth, w_meth2, w_ifs0, w_ifs1, w_over, w_range1, w_range2, w_enum, w_zip, w_expr, w_assign, w_par, w_aug, w_setIx, w_retE, w_retN, w_if, w_while, w_for, w_pass, w_brk, w_cont, w_bad, w_snil, w_scons, p_call, p_tup, p_mkT, p_mkLt, p_mkLf, p_lst, p_addI, p_addT, p_addS, p_addL, p_sub, p_mul, p_fdiv, p_mod, p_pow, p_neg, p_not, p_lt, p_le, p_gt, p_ge, p_isN, p_isnotN, p_isB, p_isnotB, p_eqI, p_neI, p_eqB, p_neB, p_len, p_lenL, p_lenC, p_ixC, p_ixT, p_ixL, p_ixR, p_max2, p_min2, p_abs, p_intI, p_intB, p_tupOf, p_listOf, p_sum, p_all, p_any, p_isI, p_isC, s_int, s_bl, s_tup, s_lst, s_str, s_non, s_ins, p_in, p_notin, t_bl, t_int, t_non, t_tup, t_lst, i_tup, i_lst, l_lst, ii_int, ii_bl, ii_tup, ii_lst, ii_str, ii_non, a_name, a_tup, a_nil, a_cons, sa_nil, sa_cons, i_at0, i_at1, i_at2, i_setR, i_ix30, i_ix31, i_ix32, i_lowI, i_lowB, i_lowN, i_lowT, p_eqT, p_neT, p_slT, p_slF, p_sl3, k_tup, k_lst, k_int, k_ins, p_app, i_isTt, i_isTl, i_isTr, l_len0, l_len1, l_len2, l_len3, l_len4, l_len5, l_len6, l_len7, l_len8, l_len9, l_len10, l_len11, l_len12, p_mulL, p_back, p_slLt, p_slLf, w_asgG, w_gName, w_gIx, w_gAttr, w_gTup, w_gNil, w_gCons, w_setAttr, p_neTP, p_eqTP, p_eqLI, p_neLI, i_recvI, Ok_ok, Ok_bad, OkS_ok, OkS_bad, OkS_then, onN_nx, onN_rt, onN_bk, onN_ct, onT_nx, onT_ct, onT_bk, onT_rt, onR_nx, onR_rt, Ok_ret, List.getElem?_cons_zero, List.getElem?_cons_succ, List.set_cons_zero, List.set_cons_succ, cut_same, Option.some.injEq, exists_eq_left', exists_eq_left, D.int.injEq, D.bl.injEq, D.tup.injEq, D.lst.injEq, D.ref.injEq, Cell.lst.injEq, Option.bind_some, Option.map_some, Bool.not_true, Bool.not_false, if_true, if_false, Bool.false_eq_true, reduceCtorEq, decide_true, decide_false, true_and, and_true, Prod.mk.injEq, and_self, String.reduceEq, Bool.or_false, Bool.false_or, Bool.or_true, Bool.true_or, Bool.and_true, Bool.true_and, Bool.and_false, Bool.false_and, reduceIte, beq_self_eq_true, i_ref at_appS, Ok_of (new_stock (k+2) _ h.ok), s__law_cl_lean (k+6) rs _ (by omega)]
  exact F5 h a b c
end
theorem s__law_far_right (k : Nat) {a b c : Int} {m : Mem} {n : Nat} (hm : m[n]? = some (dc a b c)) : Ok (callN P (k+8) 31 [.ref n] m) fun r => ∃ a' b' c', r = (.bl true, m.set n (dc a' b' c')) := by
  rw [u31]
  have eS : [D.int (10 ^ Int.toNat 25), D.int (10 ^ Int.toNat 20), D.int 1] = S3.map .int := rfl
  simp only [b31, b31t1, b31t2, w_var, w_const, w_glob, w_op, w_nil, w_cons, w_tst, w_and, w_or, w_ife, w_chain, w_slc, w_lc, w_meth, w_meth2, w_ifs0, w_ifs1, w_over, w_range1, w_range2, w_enum, w_zip, w_expr, w_assign, w_par, w_aug, w_setIx, w_retE, w_retN, w_if, w_while, w_for, w_pass, w_brk, w_cont, w_bad, w_snil, w_scons, p_call, p_tup, p_mkT, p_mkLt, p_mkLf, p_lst, p_addI, p_addT, p_addS, p_addL, p_sub, p_mul, p_fdiv, p_mod, p_pow, p_neg, p_not, p_lt, p_le, p_gt, p_ge, p_isN, p_isnotN, p_isB, p_isnotB, p_eqI, p_neI, p_eqB, p_neB, p_len, p_lenL, p_lenC, p_ixC, p_ixT, p_ixL, p_ixR, p_max2, p_min2, p_abs, p_intI, p_intB, p_tupOf, p_listOf, p_sum, p_all, p_any, p_isI, p_isC, s_int, s_bl, s_tup, s_lst, s_str, s_non, s_ins, p_in, p_notin, t_bl, t_int, t_non, t_tup, t_lst, i_tup, i_lst, l_lst, ii_int, ii_bl, ii_tup, ii_lst, ii_str, ii_non, a_name, a_tup, a_nil, a_cons, sa_nil, sa_cons, i_at0, i_at1, i_at2, i_setR, i_ix30, i_ix31, i_ix32, i_lowI, i_lowB, i_lowN, i_lowT, p_eqT, p_neT, p_slT, p_slF, p_sl3, k_tup, k_lst, k_int, k_ins, p_app, i_isTt, i_isTl, i_isTr, l_len0, l_len1, l_len2, l_len3, l_len4, l_len5, l_len6, l_len7, l_len8, l_len9, l_len10, l_len11, l_len12, p_mulL, p_back, p_slLt, p_slLf, w_asgG, w_gName, w_gIx, w_gAttr, w_gTup, w_gNil, w_gCons, w_setAttr, p_neTP, p_eqTP, p_eqLI, p_neLI, i_recvI, Ok_ok, Ok_bad, OkS_ok, OkS_bad, OkS_then, onN_nx, onN_rt, onN_bk, onN_ct, onT_nx, onT_ct, onT_bk, onT_rt, onR_nx, onR_rt, Ok_ret, List.getElem?_cons_zero, List.getElem?_cons_succ, List.set_cons_zero, List.set_cons_succ, cut_same, Option.some.injEq, exists_eq_left', exists_eq_left, D.int.injEq, D.bl.injEq, D.tup.injEq, D.lst.injEq, D.ref.injEq, Cell.lst.injEq, Option.bind_some, Option.map_some, Bool.not_true, Bool.not_false, if_true, if_false, Bool.false_eq_true, reduceCtorEq, decide_true, decide_false, true_and, and_true, Prod.mk.injEq, and_self, String.reduceEq, Bool.or_false, Bool.false_or, Bool.or_true, Bool.true_or, Bool.and_true, Bool.true_and, Bool.and_false, Bool.false_and, reduceIte, beq_self_eq_true, eS, Ok_of (new_scale (k+3) _ S3_ok)]
  refine ⟨⟨by decide, by decide, by decide⟩, ⟨by decide, by decide, by decide⟩, ?_⟩
  refine (s_roll _ (at_lt hm) (by decide) (small (by decide +kernel))).imp fun r ⟨t, a2, b2, c2, e, ht0, ht1⟩ => ?_
  subst e
  simp only [w_var, w_const, w_glob, w_op, w_nil, w_cons, w_tst, w_and, w_or, w_ife, w_chain, w_slc, w_lc, w_meth, w_meth2, w_ifs0, w_ifs1, w_over, w_range1, w_range2, w_enum, w_zip, w_expr, w_assign, w_par, w_aug, w_setIx, w_retE, w_retN, w_if, w_while, w_for, w_pass, w_brk, w_cont, w_bad, w_snil, w_scons, p_call, p_tup, p_mkT, p_mkLt, p_mkLf, p_lst, p_addI, p_addT, p_addS, p_addL, p_sub, p_mul, p_fdiv, p_mod, p_pow, p_neg, p_not, p_lt, p_le, p_gt, p_ge, p_isN, p_isnotN, p_isB, p_isnotB, p_eqI, p_neI, p_eqB, p_neB, p_len, p_lenL, p_lenC, p_ixC, p_ixT, p_ixL, p_ixR, p_max2, p_min2, p_abs, p_intI, p_intB, p_tupOf, p_listOf, p_sum, p_all, p_any, p_isI, p_isC, s_int, s_bl, s_tup, s_lst, s_str, s_non, s_ins, p_in, p_notin, t_bl, t_int, t_non, t_tup, t_lst, i_tup, i_lst, l_lst, ii_int, ii_bl, ii_tup, ii_lst, ii_str, ii_non, a_name, a_tup, a_nil, a_cons, sa_nil, sa_cons, i_at0, i_at1, i_at2, i_setR, i_ix30, i_ix31, i_ix32, i_lowI, i_lowB, i_lowN, i_lowT, p_eqT, p_neT, p_slT, p_slF, p_sl3, k_tup, k_lst, k_int, k_ins, p_app, i_isTt, i_isTl, i_isTr, l_len0, l_len1, l_len2, l_len3, l_len4, l_len5, l_len6, l_len7, l_len8, l_len9, l_len10, l_len11, l_len12, p_mulL, p_back, p_slLt, p_slLf, w_asgG, w_gName, w_gIx, w_gAttr, w_gTup, w_gNil, w_gCons, w_setAttr, p_neTP, p_eqTP, p_eqLI, p_neLI, i_recvI, Ok_ok, Ok_bad, OkS_ok, OkS_bad, OkS_then, onN_nx, onN_rt, onN_bk, onN_ct, onT_nx, onT_ct, onT_bk, onT_rt, onR_nx, onR_rt, Ok_ret, List.getElem?_cons_zero, List.getElem?_cons_succ, List.set_cons_zero, List.set_cons_succ, cut_same, Option.some.injEq, exists_eq_left', exists_eq_left, D.int.injEq, D.bl.injEq, D.tup.injEq, D.lst.injEq, D.ref.injEq, Cell.lst.injEq, Option.bind_some, Option.map_some, Bool.not_true, Bool.not_false, if_true, if_false, Bool.false_eq_true, reduceCtorEq, decide_true, decide_false, true_and, and_true, Prod.mk.injEq, and_self, String.reduceEq, Bool.or_false, Bool.false_or, Bool.or_true, Bool.true_or, Bool.and_true, Bool.true_and, Bool.and_false, Bool.false_and, reduceIte, beq_self_eq_true, set_lt hm]
  refine ⟨by simp [small62]; omega, for_ok (fun i ρ m' => ∃ rs a b c y4 y5, ρ = [some (.ref n), some (.tup (S3.map .int)), some (Sc S3), some (.ref m.length), y4, y5, none, none, none, none, none, none, none, none, none, none, none, none, none] ∧ m' = m.set n (dc a b c) ++ [.lst (rs.map pairT)] ∧ rs.length = i ∧ Big rs i) ⟨[], a2, b2, c2, none, none, rfl, rfl, rfl, ⟨Nat.le_refl _, fun p hp => by cases hp⟩⟩ (fun _ _ _ _ => rfl) ?_ ?_⟩
  · rintro i d ρ m' hd ⟨rs, a3, b3, c3, y4, y5, rfl, rfl, hl, hf⟩
    obtain ⟨hi, rfl⟩ := range_get hd
    have hm3 := at_set hm (dc a3 b3 c3)
    refine ⟨_, rfl, ?_⟩
    have p1 : ((10 : Int)).natAbs < 2 ^ 256 := by decide
    simp only [b31x1, b31x1t1, w_var, w_const, w_glob, w_op, w_nil, w_cons, w_tst, w_and, w_or, w_ife, w_chain, w_slc, w_lc, w_meth, w_meth2, w_ifs0, w_ifs1, w_over, w_range1, w_range2, w_enum, w_zip, w_expr, w_assign, w_par, w_aug, w_setIx, w_retE, w_retN, w_if, w_while, w_for, w_pass, w_brk, w_cont, w_bad, w_snil, w_scons, p_call, p_tup, p_mkT, p_mkLt, p_mkLf, p_lst, p_addI, p_addT, p_addS, p_addL, p_sub, p_mul, p_fdiv, p_mod, p_pow, p_neg, p_not, p_lt, p_le, p_gt, p_ge, p_isN, p_isnotN, p_isB, p_isnotB, p_eqI, p_neI, p_eqB, p_neB, p_len, p_lenL, p_lenC, p_ixC, p_ixT, p_ixL, p_ixR, p_max2, p_min2, p_abs, p_intI, p_intB, p_tupOf, p_listOf, p_sum, p_all, p_any, p_isI, p_isC, s_int, s_bl, s_tup, s_lst, s_str, s_non, s_ins, p_in, p_notin, t_bl, t_int, t_non, t_tup, t_lst, i_tup, i_lst, l_lst, ii_int, ii_bl, ii_tup, ii_lst, ii_str, ii_non, a_name, a_tup, a_nil, a_cons, sa_nil, sa_cons, i_at0, i_at1, i_at2, i_setR, i_ix30, i_ix31, i_ix32, i_lowI, i_lowB, i_lowN, i_lowT, p_eqT, p_neT, p_slT, p_slF, p_sl3, k_tup, k_lst, k_int, k_ins, p_app, i_isTt, i_isTl, i_isTr, l_len0, l_len1, l_len2, l_len3, l_len4, l_len5, l_len6, l_len7, l_len8, l_len9, l_len10, l_len11, l_len12, p_mulL, p_back, p_slLt, p_slLf, w_asgG, w_gName, w_gIx, w_gAttr, w_gTup, w_gNil, w_gCons, w_setAttr, p_neTP, p_eqTP, p_eqLI, p_neLI, i_recvI, Ok_ok, Ok_bad, OkS_ok, OkS_bad, OkS_then, onN_nx, onN_rt, onN_bk, onN_ct, onT_nx, onT_ct, onT_bk, onT_rt, onR_nx, onR_rt, Ok_ret, List.getElem?_cons_zero, List.getElem?_cons_succ, List.set_cons_zero, List.set_cons_succ, cut_same, Option.some.injEq, exists_eq_left', exists_eq_left, D.int.injEq, D.bl.injEq, D.tup.injEq, D.lst.injEq, D.ref.injEq, Cell.lst.injEq, Option.bind_some, Option.map_some, Bool.not_true, Bool.not_false, if_true, if_false, Bool.false_eq_true, reduceCtorEq, decide_true, decide_false, true_and, and_true, Prod.mk.injEq, and_self, String.reduceEq, Bool.or_false, Bool.false_or, Bool.or_true, Bool.true_or, Bool.and_true, Bool.true_and, Bool.and_false, Bool.false_and, reduceIte, beq_self_eq_true]
    refine ⟨⟨by decide, by decide, p1⟩, ⟨by decide, by decide, p1⟩, ?_⟩
    refine (s_pick _ (at_lt hm3) (ns := [100, 10 ^ Int.toNat 22, 10 ^ Int.toNat 30]) (by simp) (by simp)).imp fun r ⟨q, a4, b4, c4, e, hq⟩ => ?_
    subst e
    have hm4 := at_set hm (dc a4 b4 c4)
    have hq' : 1 ≤ q ∧ q ≤ 10 ^ 30 := by
      simp only [List.mem_cons, List.not_mem_nil, or_false] at hq
      rcases hq with rfl | rfl | rfl <;> decide +kernel
    simp only [w_var, w_const, w_glob, w_op, w_nil, w_cons, w_tst, w_and, w_or, w_ife, w_chain, w_slc, w_lc, w_meth, w_meth2, w_ifs0, w_ifs1, w_over, w_range1, w_range2, w_enum, w_zip, w_expr, w_assign, w_par, w_aug, w_setIx, w_retE, w_retN, w_if, w_while, w_for, w_pass, w_brk, w_cont, w_bad, w_snil, w_scons, p_call, p_tup, p_mkT, p_mkLt, p_mkLf, p_lst, p_addI, p_addT, p_addS, p_addL, p_sub, p_mul, p_fdiv, p_mod, p_pow, p_neg, p_not, p_lt, p_le, p_gt, p_ge, p_isN, p_isnotN, p_isB, p_isnotB, p_eqI, p_neI, p_eqB, p_neB, p_len, p_lenL, p_lenC, p_ixC, p_ixT, p_ixL, p_ixR, p_max2, p_min2, p_abs, p_intI, p_intB, p_tupOf, p_listOf, p_sum, p_all, p_any, p_isI, p_isC, s_int, s_bl, s_tup, s_lst, s_str, s_non, s_ins, p_in, p_notin, t_bl, t_int, t_non, t_tup, t_lst, i_tup, i_lst, l_lst, ii_int, ii_bl, ii_tup, ii_lst, ii_str, ii_non, a_name, a_tup, a_nil, a_cons, sa_nil, sa_cons, i_at0, i_at1, i_at2, i_setR, i_ix30, i_ix31, i_ix32, i_lowI, i_lowB, i_lowN, i_lowT, p_eqT, p_neT, p_slT, p_slF, p_sl3, k_tup, k_lst, k_int, k_ins, p_app, i_isTt, i_isTl, i_isTr, l_len0, l_len1, l_len2, l_len3, l_len4, l_len5, l_len6, l_len7, l_len8, l_len9, l_len10, l_len11, l_len12, p_mulL, p_back, p_slLt, p_slLf, w_asgG, w_gName, w_gIx, w_gAttr, w_gTup, w_gNil, w_gCons, w_setAttr, p_neTP, p_eqTP, p_eqLI, p_neLI, i_recvI, Ok_ok, Ok_bad, OkS_ok, OkS_bad, OkS_then, onN_nx, onN_rt, onN_bk, onN_ct, onT_nx, onT_ct, onT_bk, onT_rt, onR_nx, onR_rt, Ok_ret, List.getElem?_cons_zero, List.getElem?_cons_succ, List.set_cons_zero, List.set_cons_succ, cut_same, Option.some.injEq, exists_eq_left', exists_eq_left, D.int.injEq, D.bl.injEq, D.tup.injEq, D.lst.injEq, D.ref.injEq, Cell.lst.injEq, Option.bind_some, Option.map_some, Bool.not_true, Bool.not_false, if_true, if_false, Bool.false_eq_true, reduceCtorEq, decide_true, decide_false, true_and, and_true, Prod.mk.injEq, and_self, String.reduceEq, Bool.or_false, Bool.false_or, Bool.or_true, Bool.true_or, Bool.and_true, Bool.true_and, Bool.and_false, Bool.false_and, reduceIte, beq_self_eq_true, set_lt hm3, List.set_set]
    refine (s_roll _ (at_lt hm4) (by omega) (sm60 (by omega) (by unfold B60; omega))).imp fun r ⟨u, a5, b5, c5, e, hu0, hu1⟩ => ?_
    subst e
    have hm5 := at_set hm (dc a5 b5 c5)
    simp only [w_var, w_const, w_glob, w_op, w_nil, w_cons, w_tst, w_and, w_or, w_ife, w_chain, w_slc, w_lc, w_meth, w_meth2, w_ifs0, w_ifs1, w_over, w_range1, w_range2, w_enum, w_zip, w_expr, w_assign, w_par, w_aug, w_setIx, w_retE, w_retN, w_if, w_while, w_for, w_pass, w_brk, w_cont, w_bad, w_snil, w_scons, p_call, p_tup, p_mkT, p_mkLt, p_mkLf, p_lst, p_addI, p_addT, p_addS, p_addL, p_sub, p_mul, p_fdiv, p_mod, p_pow, p_neg, p_not, p_lt, p_le, p_gt, p_ge, p_isN, p_isnotN, p_isB, p_isnotB, p_eqI, p_neI, p_eqB, p_neB, p_len, p_lenL, p_lenC, p_ixC, p_ixT, p_ixL, p_ixR, p_max2, p_min2, p_abs, p_intI, p_intB, p_tupOf, p_listOf, p_sum, p_all, p_any, p_isI, p_isC, s_int, s_bl, s_tup, s_lst, s_str, s_non, s_ins, p_in, p_notin, t_bl, t_int, t_non, t_tup, t_lst, i_tup, i_lst, l_lst, ii_int, ii_bl, ii_tup, ii_lst, ii_str, ii_non, a_name, a_tup, a_nil, a_cons, sa_nil, sa_cons, i_at0, i_at1, i_at2, i_setR, i_ix30, i_ix31, i_ix32, i_lowI, i_lowB, i_lowN, i_lowT, p_eqT, p_neT, p_slT, p_slF, p_sl3, k_tup, k_lst, k_int, k_ins, p_app, i_isTt, i_isTl, i_isTr, l_len0, l_len1, l_len2, l_len3, l_len4, l_len5, l_len6, l_len7, l_len8, l_len9, l_len10, l_len11, l_len12, p_mulL, p_back, p_slLt, p_slLf, w_asgG, w_gName, w_gIx, w_gAttr, w_gTup, w_gNil, w_gCons, w_setAttr, p_neTP, p_eqTP, p_eqLI, p_neLI, i_recvI, Ok_ok, Ok_bad, OkS_ok, OkS_bad, OkS_then, onN_nx, onN_rt, onN_bk, onN_ct, onT_nx, onT_ct, onT_bk, onT_rt, onR_nx, onR_rt, Ok_ret, List.getElem?_cons_zero, List.getElem?_cons_succ, List.set_cons_zero, List.set_cons_succ, cut_same, Option.some.injEq, exists_eq_left', exists_eq_left, D.int.injEq, D.bl.injEq, D.tup.injEq, D.lst.injEq, D.ref.injEq, Cell.lst.injEq, Option.bind_some, Option.map_some, Bool.not_true, Bool.not_false, if_true, if_false, Bool.false_eq_true, reduceCtorEq, decide_true, decide_false, true_and, and_true, Prod.mk.injEq, and_self, String.reduceEq, Bool.or_false, Bool.false_or, Bool.or_true, Bool.true_or, Bool.and_true, Bool.true_and, Bool.and_false, Bool.false_and, reduceIte, beq_self_eq_true, set_lt hm4, List.set_set, recv_ref at_appS]
    refine ⟨⟨by decide, by decide, p1⟩, ⟨by decide, by decide, p1⟩, ?_⟩
    refine (s_pick _ (at_lt hm5) (ns := [3, 10 ^ Int.toNat 20, 10 ^ Int.toNat 28]) (by simp) (by simp)).imp fun r ⟨q2, a6, b6, c6, e, hq2⟩ => ?_
    subst e
    have hm6 := at_set hm (dc a6 b6 c6)
    have hq2' : 1 ≤ q2 ∧ q2 ≤ 10 ^ 28 := by
      simp only [List.mem_cons, List.not_mem_nil, or_false] at hq2
      rcases hq2 with rfl | rfl | rfl <;> decide +kernel
    simp only [w_var, w_const, w_glob, w_op, w_nil, w_cons, w_tst, w_and, w_or, w_ife, w_chain, w_slc, w_lc, w_meth, w_meth2, w_ifs0, w_ifs1, w_over, w_range1, w_range2, w_enum, w_zip, w_expr, w_assign, w_par, w_aug, w_setIx, w_retE, w_retN, w_if, w_while, w_for, w_pass, w_brk, w_cont, w_bad, w_snil, w_scons, p_call, p_tup, p_mkT, p_mkLt, p_mkLf, p_lst, p_addI, p_addT, p_addS, p_addL, p_sub, p_mul, p_fdiv, p_mod, p_pow, p_neg, p_not, p_lt, p_le, p_gt, p_ge, p_isN, p_isnotN, p_isB, p_isnotB, p_eqI, p_neI, p_eqB, p_neB, p_len, p_lenL, p_lenC, p_ixC, p_ixT, p_ixL, p_ixR, p_max2, p_min2, p_abs, p_intI, p_intB, p_tupOf, p_listOf, p_sum, p_all, p_any, p_isI, p_isC, s_int, s_bl, s_tup, s_lst, s_str, s_non, s_ins, p_in, p_notin, t_bl, t_int, t_non, t_tup, t_lst, i_tup, i_lst, l_lst, ii_int, ii_bl, ii_tup, ii_lst, ii_str, ii_non, a_name, a_tup, a_nil, a_cons, sa_nil, sa_cons, i_at0, i_at1, i_at2, i_setR, i_ix30, i_ix31, i_ix32, i_lowI, i_lowB, i_lowN, i_lowT, p_eqT, p_neT, p_slT, p_slF, p_sl3, k_tup, k_lst, k_int, k_ins, p_app, i_isTt, i_isTl, i_isTr, l_len0, l_len1, l_len2, l_len3, l_len4, l_len5, l_len6, l_len7, l_len8, l_len9, l_len10, l_len11, l_len12, p_mulL, p_back, p_slLt, p_slLf, w_asgG, w_gName, w_gIx, w_gAttr, w_gTup, w_gNil, w_gCons, w_setAttr, p_neTP, p_eqTP, p_eqLI, p_neLI, i_recvI, Ok_ok, Ok_bad, OkS_ok, OkS_bad, OkS_then, onN_nx, onN_rt, onN_bk, onN_ct, onT_nx, onT_ct, onT_bk, onT_rt, onR_nx, onR_rt, Ok_ret, List.getElem?_cons_zero, List.getElem?_cons_succ, List.set_cons_zero, List.set_cons_succ, cut_same, Option.some.injEq, exists_eq_left', exists_eq_left, D.int.injEq, D.bl.injEq, D.tup.injEq, D.lst.injEq, D.ref.injEq, Cell.lst.injEq, Option.bind_some, Option.map_some, Bool.not_true, Bool.not_false, if_true, if_false, Bool.false_eq_true, reduceCtorEq, decide_true, decide_false, true_and, and_true, Prod.mk.injEq, and_self, String.reduceEq, Bool.or_false, Bool.false_or, Bool.or_true, Bool.true_or, Bool.and_true, Bool.true_and, Bool.and_false, Bool.false_and, reduceIte, beq_self_eq_true, set_lt hm5, List.set_set]
    refine (s_roll _ (at_lt hm6) (by omega) (sm60 (by omega) (by unfold B60; omega))).imp fun r ⟨v, a7, b7, c7, e, hv0, hv1⟩ => ?_
    subst e
    simp only [w_var, w_const, w_glob, w_op, w_nil, w_cons, w_tst, w_and, w_or, w_ife, w_chain, w_slc, w_lc, w_meth, w_meth2, w_ifs0, w_ifs1, w_over, w_range1, w_range2, w_enum, w_zip, w_expr, w_assign, w_par, w_aug, w_setIx, w_retE, w_retN, w_if, w_while, w_for, w_pass, w_brk, w_cont, w_bad, w_snil, w_scons, p_call, p_tup, p_mkT, p_mkLt, p_mkLf, p_lst, p_addI, p_addT, p_addS, p_addL, p_sub, p_mul, p_fdiv, p_mod, p_pow, p_neg, p_not, p_lt, p_le, p_gt, p_ge, p_isN, p_isnotN, p_isB, p_isnotB, p_eqI, p_neI, p_eqB, p_neB, p_len, p_lenL, p_lenC, p_ixC, p_ixT, p_ixL, p_ixR, p_max2, p_min2, p_abs, p_intI, p_intB, p_tupOf, p_listOf, p_sum, p_all, p_any, p_isI, p_isC, s_int, s_bl, s_tup, s_lst, s_str, s_non, s_ins, p_in, p_notin, t_bl, t_int, t_non, t_tup, t_lst, i_tup, i_lst, l_lst, ii_int, ii_bl, ii_tup, ii_lst, ii_str, ii_non, a_name, a_tup, a_nil, a_cons, sa_nil, sa_cons, i_at0, i_at1, i_at2, i_setR, i_ix30, i_ix31, i_ix32, i_lowI, i_lowB, i_lowN, i_lowT, p_eqT, p_neT, p_slT, p_slF, p_sl3, k_tup, k_lst, k_int, k_ins, p_app, i_isTt, i_isTl, i_isTr, l_len0, l_len1, l_len2, l_len3, l_len4, l_len5, l_len6, l_len7, l_len8, l_len9, l_len10, l_len11, l_len12, p_mulL, p_back, p_slLt, p_slLf, w_asgG, w_gName, w_gIx, w_gAttr, w_gTup, w_gNil, w_gCons, w_setAttr, p_neTP, p_eqTP, p_eqLI, p_neLI, i_recvI, Ok_ok, Ok_bad, OkS_ok, OkS_bad, OkS_then, onN_nx, onN_rt, onN_bk, onN_ct, onT_nx, onT_ct, onT_bk, onT_rt, onR_nx, onR_rt, Ok_ret, List.getElem?_cons_zero, List.getElem?_cons_succ, List.set_cons_zero, List.set_cons_succ, cut_same, Option.some.injEq, exists_eq_left', exists_eq_left, D.int.injEq, D.bl.injEq, D.tup.injEq, D.lst.injEq, D.ref.injEq, Cell.lst.injEq, Option.bind_some, Option.map_some, Bool.not_true, Bool.not_false, if_true, if_false, Bool.false_eq_true, reduceCtorEq, decide_true, decide_false, true_and, and_true, Prod.mk.injEq, and_self, String.reduceEq, Bool.or_false, Bool.false_or, Bool.or_true, Bool.true_or, Bool.and_true, Bool.true_and, Bool.and_false, Bool.false_and, reduceIte, beq_self_eq_true, set_lt hm6, List.set_set, at_appS, set_appS]
    refine ⟨lim1000 (by rw [List.length_map]; omega), rs ++ [(1 + u, 1 + v)], a7, b7, c7, _, _, rfl, by rw [List.map_append]; rfl, by simp [hl], by simp [hl], fun p hp => ?_⟩
    rcases List.mem_append.mp hp with hp | hp
    · exact hf.all p hp
    · rw [List.mem_singleton] at hp
      subst hp
      dsimp only
      omega
  · rintro ρ m' ⟨rs, a3, b3, c3, y4, y5, rfl, rfl, hl, hf⟩
    have hlen : (rangeD 0 (1 + t).toNat).length = (1 + t).toNat := by simp [rangeD]
    rw [hlen] at hl
    refine F3 ⟨⟨_, _, _, hm⟩, ⟨by omega, hf.all⟩, fun e => ?_⟩ a3 b3 c3
    rw [e] at hl
    simp at hl
    omega
end HT

namespace HT
open Rf L2
theorem cut_any {m0 m : Mem} {b : Bool} : cut m0 (.bl b) m = (.bl b, (cut m0 (.bl b) m).2) := by
  unfold cut
  split
  · rfl
  · rfl
theorem empty_ok : RowsOk [] := ⟨Nat.zero_le _, (fun p hp => by cases hp), (by unfold B60; decide)⟩
theorem sizes631 : Sizes [6, 3, 1] := by
  refine ⟨by decide, by decide, fun n hn => ?_, fun p hp => ?_⟩
  · simp only [List.mem_cons, List.not_mem_nil, or_false] at hn
    rcases hn with rfl | rfl | rfl <;> decide +kernel
  · simp only [List.drop_succ_cons, List.drop_zero, List.zip_cons_cons, List.zip_nil_right, List.mem_cons, List.not_mem_nil, or_false] at hp
    rcases hp with rfl | rfl <;> decide +kernel
theorem r710 : RowsOk [(7, 2), (10, 1)] := by
  refine ⟨by decide, fun p hp => ?_, by unfold B60; decide +kernel⟩
  simp only [List.mem_cons, List.not_mem_nil, or_false] at hp
  rcases hp with rfl | rfl <;> unfold B60 <;> decide +kernel
theorem r8 : rle (roundX (expand [(7, 2), (10, 1)]) 8) = [(8, 1)] := by decide +kernel
theorem r0 : rle ((sortI (expand [])).reverse.take (Int.toNat 0)) = [] := rfl
theorem new_stock' (k : Nat) {rs rs' : Rws} {ds : List D} (m : Mem) (h : RowsOk rs) (e1 : ds = rs.map pairT) (e2 : leanR rs = rs') : prim P (callN P (k+5)) (.new 1) [.tup ds] m = .ok (St rs', m) := by
  subst e1 e2
  exact new_stock k m h
theorem new_scale' (k : Nat) {ns : List Int} {ds : List D} (m : Mem) (h : Sizes ns) (e1 : ds = ns.map .int) : prim P (callN P (k+4)) (.new 0) [.tup ds] m = .ok (Sc ns, m) := by
  subst e1
  exact new_scale k m h
theorem places' (k : Nat) {ns : List Int} {rs : Rws} {ds : List D} {m : Mem} (h : Sizes ns) (hr : RowsOk rs) (e : (placesR ns rs).map .int = ds) : callN P (k+2) 15 [Sc ns, St rs] m = .ok (.tup ds, m) := by
  subst e
  exact s_places k h hr
theorem rounded' (k : Nat) {rs rs' : Rws} {s : Int} {m : Mem} (h : RowsOk rs) (h0 : 1 ≤ s) (h1 : s ≤ B60) (e : rle (roundX (expand rs) s) = rs') : callN P (k+6) 19 [St rs, .int s] m = .ok (St rs', m) := by
  subst e
  exact s_rounded k h h0 h1
theorem great' (k : Nat) {rs rs' : Rws} {n : Int} {m : Mem} (h : RowsOk rs) (h0 : 0 ≤ n) (h1 : n ≤ holdsR rs) (e : rle ((sortI (expand rs)).reverse.take n.toNat) = rs') : callN P (k+6) 17 [St rs, .int n] m = .ok (St rs', m) := by
  subst e
  exact s_greatest_holds k h h0 h1
theorem law_tail (k : Nat) (m : Mem) (d0 y z : Option D) : OkS (semSs P (callN P (k + 8)) b32t1 [d0, y, z, none] m) (onR [] fun r => ∃ m, r = (.bl true, m)) := by
  have q1 : pl 2 (.tup [.tup [], .int 0, .int 0]) = true := by simp [pl, pls]
  have q2 : pl 2 (.tup [.int 0, .int 0, .int 0]) = true := by simp [pl, pls]
  have q3 : pl 2 (.tup [.tup [.int 8, .int 1]]) = true := by simp [pl, pls]
  have h0 : ∀ m, prim P (callN P (k + 8)) (.attr "holds") [St []] m = .ok (.int 0, m) := fun m => at_holds (k+6) (Nat.zero_le _)
  have h1 : ∀ m, prim P (callN P (k + 8)) (.attr "room") [St []] m = .ok (.int 0, m) := fun m => at_room (k+6) (Nat.zero_le _) (fun p hp => by cases hp)
  have b8 : (8 : Int) ≤ B60 := by unfold B60; decide
  simp only [b32t1, b32t2, b32t3, b32x3, w_var, w_const, w_glob, w_op, w_nil, w_cons, w_tst, w_and, w_or, w_ife, w_chain, w_slc, w_lc, w_meth, w_meth2, w_ifs0, w_ifs1, w_over, w_range1, w_range2, w_enum, w_zip, w_expr, w_assign, w_par, w_aug, w_setIx, w_retE, w_retN, w_if, w_while, w_for, w_pass, w_brk, w_cont, w_bad, w_snil, w_scons, p_call, p_tup, p_mkT, p_mkLt, p_mkLf, p_lst, p_addI, p_addT, p_addS, p_addL, p_sub, p_mul, p_fdiv, p_mod, p_pow, p_neg, p_not, p_lt, p_le, p_gt, p_ge, p_isN, p_isnotN, p_isB, p_isnotB, p_eqI, p_neI, p_eqB, p_neB, p_len, p_lenL, p_lenC, p_ixC, p_ixT, p_ixL, p_ixR, p_max2, p_min2, p_abs, p_intI, p_intB, p_tupOf, p_listOf, p_sum, p_all, p_any, p_isI, p_isC, s_int, s_bl, s_tup, s_lst, s_str, s_non, s_ins, p_in, p_notin, t_bl, t_int, t_non, t_tup, t_lst, i_tup, i_lst, l_lst, ii_int, ii_bl, ii_tup, ii_lst, ii_str, ii_non, a_name, a_tup, a_nil, a_cons, sa_nil, sa_cons, i_at0, i_at1, i_at2, i_setR, i_ix30, i_ix31, i_ix32, i_lowI, i_lowB, i_lowN, i_lowT, p_eqT, p_neT, p_slT, p_slF, p_sl3, k_tup, k_lst, k_int, k_ins, p_app, i_isTt, i_isTl, i_isTr, l_len0, l_len1, l_len2, l_len3, l_len4, l_len5, l_len6, l_len7, l_len8, l_len9, l_len10, l_len11, l_len12, p_mulL, p_back, p_slLt, p_slLf, w_asgG, w_gName, w_gIx, w_gAttr, w_gTup, w_gNil, w_gCons, w_setAttr, p_neTP, p_eqTP, p_eqLI, p_neLI, i_recvI, Ok_ok, Ok_bad, OkS_ok, OkS_bad, OkS_then, onN_nx, onN_rt, onN_bk, onN_ct, onT_nx, onT_ct, onT_bk, onT_rt, onR_nx, onR_rt, Ok_ret, List.getElem?_cons_zero, List.getElem?_cons_succ, List.set_cons_zero, List.set_cons_succ, cut_same, Option.some.injEq, exists_eq_left', exists_eq_left, D.int.injEq, D.bl.injEq, D.tup.injEq, D.lst.injEq, D.ref.injEq, Cell.lst.injEq, Option.bind_some, Option.map_some, Bool.not_true, Bool.not_false, if_true, if_false, Bool.false_eq_true, reduceCtorEq, decide_true, decide_false, true_and, and_true, Prod.mk.injEq, and_self, String.reduceEq, Bool.or_false, Bool.false_or, Bool.or_true, Bool.true_or, Bool.and_true, Bool.true_and, Bool.and_false, Bool.false_and, reduceIte, beq_self_eq_true, new_stock' (k+3) _ empty_ok (ds := []) rfl (rs' := []) rfl, new_scale' (k+4) _ sizes631 (ds := [.int 6, .int 3, .int 1]) rfl, new_stock' (k+3) _ r710 (ds := [.tup [.int 7, .int 2], .tup [.int 10, .int 1]]) rfl (rs' := [(7, 2), (10, 1)]) rfl, h0, h1, at_rows, places' (k+6) sizes631 empty_ok (ds := [.int 0, .int 0, .int 0]) rfl, rounded' (k+2) r710 (s := 8) (by decide) b8 r8, great' (k+2) empty_ok (n := 0) (by decide) (by decide) r0, List.map_nil, List.map_cons, pairT, p_neP q1 q1, p_neP q2 q2, p_eqP q3 q3, eq_stock]
  exact ⟨_, cut_any⟩
theorem law_pure (k : Nat) (ns : List Int) (hl : ns.length ≤ 63) : ∃ m, callN P (k+9) li [.scr ns] [] = .ok (.bl true, m) := by
  have h : Ok (callN P (k+9) 32 [.scr ns] []) fun r => ∃ m, r = (.bl true, m) := by
    rw [u32]
    simp only [b32, w_var, w_const, w_glob, w_op, w_nil, w_cons, w_tst, w_and, w_or, w_ife, w_chain, w_slc, w_lc, w_meth, w_meth2, w_ifs0, w_ifs1, w_over, w_range1, w_range2, w_enum, w_zip, w_expr, w_assign, w_par, w_aug, w_setIx, w_retE, w_retN, w_if, w_while, w_for, w_pass, w_brk, w_cont, w_bad, w_snil, w_scons, p_call, p_tup, p_mkT, p_mkLt, p_mkLf, p_lst, p_addI, p_addT, p_addS, p_addL, p_sub, p_mul, p_fdiv, p_mod, p_pow, p_neg, p_not, p_lt, p_le, p_gt, p_ge, p_isN, p_isnotN, p_isB, p_isnotB, p_eqI, p_neI, p_eqB, p_neB, p_len, p_lenL, p_lenC, p_ixC, p_ixT, p_ixL, p_ixR, p_max2, p_min2, p_abs, p_intI, p_intB, p_tupOf, p_listOf, p_sum, p_all, p_any, p_isI, p_isC, s_int, s_bl, s_tup, s_lst, s_str, s_non, s_ins, p_in, p_notin, t_bl, t_int, t_non, t_tup, t_lst, i_tup, i_lst, l_lst, ii_int, ii_bl, ii_tup, ii_lst, ii_str, ii_non, a_name, a_tup, a_nil, a_cons, sa_nil, sa_cons, i_at0, i_at1, i_at2, i_setR, i_ix30, i_ix31, i_ix32, i_lowI, i_lowB, i_lowN, i_lowT, p_eqT, p_neT, p_slT, p_slF, p_sl3, k_tup, k_lst, k_int, k_ins, p_app, i_isTt, i_isTl, i_isTr, l_len0, l_len1, l_len2, l_len3, l_len4, l_len5, l_len6, l_len7, l_len8, l_len9, l_len10, l_len11, l_len12, p_mulL, p_back, p_slLt, p_slLf, w_asgG, w_gName, w_gIx, w_gAttr, w_gTup, w_gNil, w_gCons, w_setAttr, p_neTP, p_eqTP, p_eqLI, p_neLI, i_recvI, Ok_ok, Ok_bad, OkS_ok, OkS_bad, OkS_then, onN_nx, onN_rt, onN_bk, onN_ct, onT_nx, onT_ct, onT_bk, onT_rt, onR_nx, onR_rt, Ok_ret, List.getElem?_cons_zero, List.getElem?_cons_succ, List.set_cons_zero, List.set_cons_succ, cut_same, Option.some.injEq, exists_eq_left', exists_eq_left, D.int.injEq, D.bl.injEq, D.tup.injEq, D.lst.injEq, D.ref.injEq, Cell.lst.injEq, Option.bind_some, Option.map_some, Bool.not_true, Bool.not_false, if_true, if_false, Bool.false_eq_true, reduceCtorEq, decide_true, decide_false, true_and, and_true, Prod.mk.injEq, and_self, String.reduceEq, Bool.or_false, Bool.false_or, Bool.or_true, Bool.true_or, Bool.and_true, Bool.true_and, Bool.and_false, Bool.false_and, reduceIte, beq_self_eq_true]
    refine ⟨?_, for_ok (fun i ρ m' => ∃ y z, ρ = [some (.scr ns), y, z, none]) ⟨none, none, rfl⟩ (fun _ _ _ _ => rfl) ?_ ?_⟩
    · simp only [small62]
      split <;> split <;> simp <;> omega
    · rintro i d ρ m' hd ⟨y, z, rfl⟩
      obtain ⟨hi, rfl⟩ := range_get hd
      refine ⟨_, rfl, ?_⟩
      simp only [b32x1, b32x1t1, b32x2, w_var, w_const, w_glob, w_op, w_nil, w_cons, w_tst, w_and, w_or, w_ife, w_chain, w_slc, w_lc, w_meth, w_meth2, w_ifs0, w_ifs1, w_over, w_range1, w_range2, w_enum, w_zip, w_expr, w_assign, w_par, w_aug, w_setIx, w_retE, w_retN, w_if, w_while, w_for, w_pass, w_brk, w_cont, w_bad, w_snil, w_scons, p_call, p_tup, p_mkT, p_mkLt, p_mkLf, p_lst, p_addI, p_addT, p_addS, p_addL, p_sub, p_mul, p_fdiv, p_mod, p_pow, p_neg, p_not, p_lt, p_le, p_gt, p_ge, p_isN, p_isnotN, p_isB, p_isnotB, p_eqI, p_neI, p_eqB, p_neB, p_len, p_lenL, p_lenC, p_ixC, p_ixT, p_ixL, p_ixR, p_max2, p_min2, p_abs, p_intI, p_intB, p_tupOf, p_listOf, p_sum, p_all, p_any, p_isI, p_isC, s_int, s_bl, s_tup, s_lst, s_str, s_non, s_ins, p_in, p_notin, t_bl, t_int, t_non, t_tup, t_lst, i_tup, i_lst, l_lst, ii_int, ii_bl, ii_tup, ii_lst, ii_str, ii_non, a_name, a_tup, a_nil, a_cons, sa_nil, sa_cons, i_at0, i_at1, i_at2, i_setR, i_ix30, i_ix31, i_ix32, i_lowI, i_lowB, i_lowN, i_lowT, p_eqT, p_neT, p_slT, p_slF, p_sl3, k_tup, k_lst, k_int, k_ins, p_app, i_isTt, i_isTl, i_isTr, l_len0, l_len1, l_len2, l_len3, l_len4, l_len5, l_len6, l_len7, l_len8, l_len9, l_len10, l_len11, l_len12, p_mulL, p_back, p_slLt, p_slLf, w_asgG, w_gName, w_gIx, w_gAttr, w_gTup, w_gNil, w_gCons, w_setAttr, p_neTP, p_eqTP, p_eqLI, p_neLI, i_recvI, Ok_ok, Ok_bad, OkS_ok, OkS_bad, OkS_then, onN_nx, onN_rt, onN_bk, onN_ct, onT_nx, onT_ct, onT_bk, onT_rt, onR_nx, onR_rt, Ok_ret, List.getElem?_cons_zero, List.getElem?_cons_succ, List.set_cons_zero, List.set_cons_succ, cut_same, Option.some.injEq, exists_eq_left', exists_eq_left, D.int.injEq, D.bl.injEq, D.tup.injEq, D.lst.injEq, D.ref.injEq, Cell.lst.injEq, Option.bind_some, Option.map_some, Bool.not_true, Bool.not_false, if_true, if_false, Bool.false_eq_true, reduceCtorEq, decide_true, decide_false, true_and, and_true, Prod.mk.injEq, and_self, String.reduceEq, Bool.or_false, Bool.false_or, Bool.or_true, Bool.true_or, Bool.and_true, Bool.true_and, Bool.and_false, Bool.false_and, reduceIte, beq_self_eq_true, Int.zero_add]
      refine (s_dice _ ns i m').imp fun r ⟨a, b, c, e⟩ => ?_
      subst e
      simp only [w_var, w_const, w_glob, w_op, w_nil, w_cons, w_tst, w_and, w_or, w_ife, w_chain, w_slc, w_lc, w_meth, w_meth2, w_ifs0, w_ifs1, w_over, w_range1, w_range2, w_enum, w_zip, w_expr, w_assign, w_par, w_aug, w_setIx, w_retE, w_retN, w_if, w_while, w_for, w_pass, w_brk, w_cont, w_bad, w_snil, w_scons, p_call, p_tup, p_mkT, p_mkLt, p_mkLf, p_lst, p_addI, p_addT, p_addS, p_addL, p_sub, p_mul, p_fdiv, p_mod, p_pow, p_neg, p_not, p_lt, p_le, p_gt, p_ge, p_isN, p_isnotN, p_isB, p_isnotB, p_eqI, p_neI, p_eqB, p_neB, p_len, p_lenL, p_lenC, p_ixC, p_ixT, p_ixL, p_ixR, p_max2, p_min2, p_abs, p_intI, p_intB, p_tupOf, p_listOf, p_sum, p_all, p_any, p_isI, p_isC, s_int, s_bl, s_tup, s_lst, s_str, s_non, s_ins, p_in, p_notin, t_bl, t_int, t_non, t_tup, t_lst, i_tup, i_lst, l_lst, ii_int, ii_bl, ii_tup, ii_lst, ii_str, ii_non, a_name, a_tup, a_nil, a_cons, sa_nil, sa_cons, i_at0, i_at1, i_at2, i_setR, i_ix30, i_ix31, i_ix32, i_lowI, i_lowB, i_lowN, i_lowT, p_eqT, p_neT, p_slT, p_slF, p_sl3, k_tup, k_lst, k_int, k_ins, p_app, i_isTt, i_isTl, i_isTr, l_len0, l_len1, l_len2, l_len3, l_len4, l_len5, l_len6, l_len7, l_len8, l_len9, l_len10, l_len11, l_len12, p_mulL, p_back, p_slLt, p_slLf, w_asgG, w_gName, w_gIx, w_gAttr, w_gTup, w_gNil, w_gCons, w_setAttr, p_neTP, p_eqTP, p_eqLI, p_neLI, i_recvI, Ok_ok, Ok_bad, OkS_ok, OkS_bad, OkS_then, onN_nx, onN_rt, onN_bk, onN_ct, onT_nx, onT_ct, onT_bk, onT_rt, onR_nx, onR_rt, Ok_ret, List.getElem?_cons_zero, List.getElem?_cons_succ, List.set_cons_zero, List.set_cons_succ, cut_same, Option.some.injEq, exists_eq_left', exists_eq_left, D.int.injEq, D.bl.injEq, D.tup.injEq, D.lst.injEq, D.ref.injEq, Cell.lst.injEq, Option.bind_some, Option.map_some, Bool.not_true, Bool.not_false, if_true, if_false, Bool.false_eq_true, reduceCtorEq, decide_true, decide_false, true_and, and_true, Prod.mk.injEq, and_self, String.reduceEq, Bool.or_false, Bool.false_or, Bool.or_true, Bool.true_or, Bool.and_true, Bool.true_and, Bool.and_false, Bool.false_and, reduceIte, beq_self_eq_true]
      refine (s__law_right k at_app).imp fun r ⟨a1, b1, c1, e⟩ => ?_
      subst e
      simp only [w_var, w_const, w_glob, w_op, w_nil, w_cons, w_tst, w_and, w_or, w_ife, w_chain, w_slc, w_lc, w_meth, w_meth2, w_ifs0, w_ifs1, w_over, w_range1, w_range2, w_enum, w_zip, w_expr, w_assign, w_par, w_aug, w_setIx, w_retE, w_retN, w_if, w_while, w_for, w_pass, w_brk, w_cont, w_bad, w_snil, w_scons, p_call, p_tup, p_mkT, p_mkLt, p_mkLf, p_lst, p_addI, p_addT, p_addS, p_addL, p_sub, p_mul, p_fdiv, p_mod, p_pow, p_neg, p_not, p_lt, p_le, p_gt, p_ge, p_isN, p_isnotN, p_isB, p_isnotB, p_eqI, p_neI, p_eqB, p_neB, p_len, p_lenL, p_lenC, p_ixC, p_ixT, p_ixL, p_ixR, p_max2, p_min2, p_abs, p_intI, p_intB, p_tupOf, p_listOf, p_sum, p_all, p_any, p_isI, p_isC, s_int, s_bl, s_tup, s_lst, s_str, s_non, s_ins, p_in, p_notin, t_bl, t_int, t_non, t_tup, t_lst, i_tup, i_lst, l_lst, ii_int, ii_bl, ii_tup, ii_lst, ii_str, ii_non, a_name, a_tup, a_nil, a_cons, sa_nil, sa_cons, i_at0, i_at1, i_at2, i_setR, i_ix30, i_ix31, i_ix32, i_lowI, i_lowB, i_lowN, i_lowT, p_eqT, p_neT, p_slT, p_slF, p_sl3, k_tup, k_lst, k_int, k_ins, p_app, i_isTt, i_isTl, i_isTr, l_len0, l_len1, l_len2, l_len3, l_len4, l_len5, l_len6, l_len7, l_len8, l_len9, l_len10, l_len11, l_len12, p_mulL, p_back, p_slLt, p_slLf, w_asgG, w_gName, w_gIx, w_gAttr, w_gTup, w_gNil, w_gCons, w_setAttr, p_neTP, p_eqTP, p_eqLI, p_neLI, i_recvI, Ok_ok, Ok_bad, OkS_ok, OkS_bad, OkS_then, onN_nx, onN_rt, onN_bk, onN_ct, onT_nx, onT_ct, onT_bk, onT_rt, onR_nx, onR_rt, Ok_ret, List.getElem?_cons_zero, List.getElem?_cons_succ, List.set_cons_zero, List.set_cons_succ, cut_same, Option.some.injEq, exists_eq_left', exists_eq_left, D.int.injEq, D.bl.injEq, D.tup.injEq, D.lst.injEq, D.ref.injEq, Cell.lst.injEq, Option.bind_some, Option.map_some, Bool.not_true, Bool.not_false, if_true, if_false, Bool.false_eq_true, reduceCtorEq, decide_true, decide_false, true_and, and_true, Prod.mk.injEq, and_self, String.reduceEq, Bool.or_false, Bool.false_or, Bool.or_true, Bool.true_or, Bool.and_true, Bool.true_and, Bool.and_false, Bool.false_and, reduceIte, beq_self_eq_true, set_app]
      refine (s__law_right k at_app).imp fun r ⟨a2, b2, c2, e⟩ => ?_
      subst e
      simp only [w_var, w_const, w_glob, w_op, w_nil, w_cons, w_tst, w_and, w_or, w_ife, w_chain, w_slc, w_lc, w_meth, w_meth2, w_ifs0, w_ifs1, w_over, w_range1, w_range2, w_enum, w_zip, w_expr, w_assign, w_par, w_aug, w_setIx, w_retE, w_retN, w_if, w_while, w_for, w_pass, w_brk, w_cont, w_bad, w_snil, w_scons, p_call, p_tup, p_mkT, p_mkLt, p_mkLf, p_lst, p_addI, p_addT, p_addS, p_addL, p_sub, p_mul, p_fdiv, p_mod, p_pow, p_neg, p_not, p_lt, p_le, p_gt, p_ge, p_isN, p_isnotN, p_isB, p_isnotB, p_eqI, p_neI, p_eqB, p_neB, p_len, p_lenL, p_lenC, p_ixC, p_ixT, p_ixL, p_ixR, p_max2, p_min2, p_abs, p_intI, p_intB, p_tupOf, p_listOf, p_sum, p_all, p_any, p_isI, p_isC, s_int, s_bl, s_tup, s_lst, s_str, s_non, s_ins, p_in, p_notin, t_bl, t_int, t_non, t_tup, t_lst, i_tup, i_lst, l_lst, ii_int, ii_bl, ii_tup, ii_lst, ii_str, ii_non, a_name, a_tup, a_nil, a_cons, sa_nil, sa_cons, i_at0, i_at1, i_at2, i_setR, i_ix30, i_ix31, i_ix32, i_lowI, i_lowB, i_lowN, i_lowT, p_eqT, p_neT, p_slT, p_slF, p_sl3, k_tup, k_lst, k_int, k_ins, p_app, i_isTt, i_isTl, i_isTr, l_len0, l_len1, l_len2, l_len3, l_len4, l_len5, l_len6, l_len7, l_len8, l_len9, l_len10, l_len11, l_len12, p_mulL, p_back, p_slLt, p_slLf, w_asgG, w_gName, w_gIx, w_gAttr, w_gTup, w_gNil, w_gCons, w_setAttr, p_neTP, p_eqTP, p_eqLI, p_neLI, i_recvI, Ok_ok, Ok_bad, OkS_ok, OkS_bad, OkS_then, onN_nx, onN_rt, onN_bk, onN_ct, onT_nx, onT_ct, onT_bk, onT_rt, onR_nx, onR_rt, Ok_ret, List.getElem?_cons_zero, List.getElem?_cons_succ, List.set_cons_zero, List.set_cons_succ, cut_same, Option.some.injEq, exists_eq_left', exists_eq_left, D.int.injEq, D.bl.injEq, D.tup.injEq, D.lst.injEq, D.ref.injEq, Cell.lst.injEq, Option.bind_some, Option.map_some, Bool.not_true, Bool.not_false, if_true, if_false, Bool.false_eq_true, reduceCtorEq, decide_true, decide_false, true_and, and_true, Prod.mk.injEq, and_self, String.reduceEq, Bool.or_false, Bool.false_or, Bool.or_true, Bool.true_or, Bool.and_true, Bool.true_and, Bool.and_false, Bool.false_and, reduceIte, beq_self_eq_true, set_app]
      refine (s__law_far_right k at_app).imp fun r ⟨a3, b3, c3, e⟩ => ?_
      subst e
      simp only [w_var, w_const, w_glob, w_op, w_nil, w_cons, w_tst, w_and, w_or, w_ife, w_chain, w_slc, w_lc, w_meth, w_meth2, w_ifs0, w_ifs1, w_over, w_range1, w_range2, w_enum, w_zip, w_expr, w_assign, w_par, w_aug, w_setIx, w_retE, w_retN, w_if, w_while, w_for, w_pass, w_brk, w_cont, w_bad, w_snil, w_scons, p_call, p_tup, p_mkT, p_mkLt, p_mkLf, p_lst, p_addI, p_addT, p_addS, p_addL, p_sub, p_mul, p_fdiv, p_mod, p_pow, p_neg, p_not, p_lt, p_le, p_gt, p_ge, p_isN, p_isnotN, p_isB, p_isnotB, p_eqI, p_neI, p_eqB, p_neB, p_len, p_lenL, p_lenC, p_ixC, p_ixT, p_ixL, p_ixR, p_max2, p_min2, p_abs, p_intI, p_intB, p_tupOf, p_listOf, p_sum, p_all, p_any, p_isI, p_isC, s_int, s_bl, s_tup, s_lst, s_str, s_non, s_ins, p_in, p_notin, t_bl, t_int, t_non, t_tup, t_lst, i_tup, i_lst, l_lst, ii_int, ii_bl, ii_tup, ii_lst, ii_str, ii_non, a_name, a_tup, a_nil, a_cons, sa_nil, sa_cons, i_at0, i_at1, i_at2, i_setR, i_ix30, i_ix31, i_ix32, i_lowI, i_lowB, i_lowN, i_lowT, p_eqT, p_neT, p_slT, p_slF, p_sl3, k_tup, k_lst, k_int, k_ins, p_app, i_isTt, i_isTl, i_isTr, l_len0, l_len1, l_len2, l_len3, l_len4, l_len5, l_len6, l_len7, l_len8, l_len9, l_len10, l_len11, l_len12, p_mulL, p_back, p_slLt, p_slLf, w_asgG, w_gName, w_gIx, w_gAttr, w_gTup, w_gNil, w_gCons, w_setAttr, p_neTP, p_eqTP, p_eqLI, p_neLI, i_recvI, Ok_ok, Ok_bad, OkS_ok, OkS_bad, OkS_then, onN_nx, onN_rt, onN_bk, onN_ct, onT_nx, onT_ct, onT_bk, onT_rt, onR_nx, onR_rt, Ok_ret, List.getElem?_cons_zero, List.getElem?_cons_succ, List.set_cons_zero, List.set_cons_succ, cut_same, Option.some.injEq, exists_eq_left', exists_eq_left, D.int.injEq, D.bl.injEq, D.tup.injEq, D.lst.injEq, D.ref.injEq, Cell.lst.injEq, Option.bind_some, Option.map_some, Bool.not_true, Bool.not_false, if_true, if_false, Bool.false_eq_true, reduceCtorEq, decide_true, decide_false, true_and, and_true, Prod.mk.injEq, and_self, String.reduceEq, Bool.or_false, Bool.false_or, Bool.or_true, Bool.true_or, Bool.and_true, Bool.true_and, Bool.and_false, Bool.false_and, reduceIte, beq_self_eq_true]
      exact ⟨_, _, rfl⟩
    · rintro ρ m' ⟨y, z, rfl⟩
      exact law_tail k m' _ y z
  obtain ⟨r, e, m, rfl⟩ := h.val
  exact ⟨m, e⟩
end HT

namespace HT
open PySem PySem.W PySem.Calls PyProof.Rows
theorem law_holds (lev : Nat) (hlev : L2.Room (3 * lev) callerA) (hpure : ∀ ns : List Int, ns.length ≤ 63 → ∃ m, Rf.callN P lev li [.scr ns] [] = .ok (.bl true, m)) : PySem.Challenge.rw_carryloads_k16_whole_stocks.Holds := by
  w_on; o_law
  refine HandSHeadRun.head_any (r := OpenLaw.row PySem.Challenge.rw_carryloads_k16_whole_stocks) (q := view (OpenLaw.row PySem.Challenge.rw_carryloads_k16_whole_stocks).prog [51]) (H := hk) (ob := ob) (M := 4000) (loose := loose) (d := HandSHeadRun.topDef (OpenLaw.row PySem.Challenge.rw_carryloads_k16_whole_stocks).prog 51) (kwd := []) ob_eq
    (by kernel_rfl) (fun s => by kernel_rfl) run (by kernel_rfl) (by kernel_rfl) (by kernel_rfl) (by rfl) (by first | assumption | decide +kernel) (by decide +kernel) ⟨rfl, rfl, rfl, rfl, rfl, by decide +kernel⟩ ?hw ?hc
  case hw => w_witness2
  case hc =>
    refine L2.walk_ofE (l := PySem.Challenge.rw_carryloads_k16_whole_stocks) (n := 63) (k := 3 * lev) (x := "script") (CX := L2.CX0) rfl (by decide) (by kernel_rfl) hlev ?F (fun _ _ _ _ z => z)
    intro w mg fad h Y G hmg0
    obtain ⟨K, KX, c, cx⟩ := Y
    have hmg : mg "law" = some (.ref fad) := by
      have e : (HandSHeadRun.topDef (OpenLaw.row PySem.Challenge.rw_carryloads_k16_whole_stocks).prog 51).name = ("law" : PySem.Str) := by kernel_rfl
      rw [← e]
      exact hmg0
    have hd := Rf.head_of len (by kernel_rfl) (by kernel_rfl) chk (by kernel_rfl) binds KX G c cx
    have ht : Ts[li]? = some (Ts.getD li t0) := by kernel_rfl
    obtain ⟨fd, sp, h1, h2, h3⟩ := Rf.law_of (Pr := PySem.Challenge.rw_carryloads_k16_whole_stocks.prog) (w := w) (lev := lev) (x := "law") hd ht (by kernel_rfl) (by kernel_rfl) (binds _ (List.mem_of_getElem? ht)) hmg hpure
    exact ⟨K, fd, fun vs H Q _ => sp vs H Q fun _ _ _ => False, KX, h1, fun H a ns hl hO hS => h2 H a ns hl hO hS, fun base _ _ => Rf.quiet (h3 base)⟩
end HT

theorem PySem.Challenge.cw_carryloads_k16_whole_stocks_holds : PySem.Challenge.rw_carryloads_k16_whole_stocks.Holds := by
  exact HT.law_holds 9 ⟨rfl, by decide, by decide⟩ fun ns hl => HT.law_pure 0 ns hl
